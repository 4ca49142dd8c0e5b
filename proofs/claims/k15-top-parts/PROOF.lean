import PyProof.Rows.All
import Wide.All
import OpenK.AllK
import Wide.FinOn
import HandS.ForMost
import HandS.Exc
import HandS.ExcOwn
import HandS.WordsExc
import HandS.CallSlots
import HandS.TryOnly
import HandS.TryMany
import HandS.Gcd
import HandS.ExcInit
import HandS.IsInst
import HandS.Defaults
import HandS.MakeKw
import HandS.Wide
import HandS.HotCalls
import HandS.ExcIs
import HandS.ExcField
import HandS.Flow
import HandS.Style
import HandS.Head0
import HandS.Head1
import HandS.Head2
import HandS.Head3
import HandS.HeadEnd
import HandS.HeadHook1
import HandS.HeadHook2
import KE.KExcIs
import HandS.Walk
import KE.KMathGC
import KE.GoesEnum
import HandS.HeadNt
import HandS.WideBits
import Flt.RightSqrt
import HandS.OwnEq
import HandS.Property
import HandS.ExcCtx
import HandS.Codes
import HandS.StrMore
import HandS.FStr
import PyProof.Rows.StrOr
import PyProof.StrOps2
import HandS.SortKw
import KE.SortData
import HandS.DictTup
import HandS.DictComp
import PySem.Challenge.RW_belownought_k15_top_parts_of_squares
import HandS.MakeKwOnly
set_option Elab.async false
set_option linter.all false
set_option maxRecDepth 100000
set_option maxHeartbeats 4000000
namespace Z
open PySem PySem.Spec PyProof.Rows L2
section
variable (P : Program) (w : World) (K : PySem.W.Frag) (mg : Str → Option Value) (base : Heap)
/-- a def of the module under its name, the defaults dvs filling up -/
structure Cal (k : Nat) (x : Str) (sp : Sp) (dvs : List V) : Prop where
  ex : ∃ (f : Addr) (fd : FuncData) (ps : List Str) (ds : List Value), FnOk P w K mg base (L2N.CX P w) k f fd ps sp ∧ mg x = some (.ref f) ∧ PySem.W.keepIn K (.ref f) = true ∧ Binds K fd ps ds ∧ Vals dvs ds
/-- a method -/
structure Met (k : Nat) (C : Addr) (m : Str) (sp : Sp) (dvs : List V) : Prop where
  ex : ∃ (f : Addr) (fd : FuncData) (ps : List Str) (ds : List Value), Cls K C ∧ Meth K C m f ∧ FnOk P w K mg base (L2N.CX P w) k f fd ps sp ∧ Binds K fd ps ds ∧ Vals dvs ds
/-- a class made by its name -/
structure Mak (k : Nat) (x : Str) (C : Addr) (sp : Sp) (dvs : List V) : Prop where
  ex : ∃ (f : Addr) (fd : FuncData) (ps : List Str) (ds : List Value), Mk K C f ∧ FnOk P w K mg base (L2N.CX P w) k f fd ps sp ∧ mg x = some (.ref C) ∧ Binds K fd ps ds ∧ Vals dvs ds
structure MakK (k : Nat) (x : Str) (C : Addr) (sp : Sp) (n : Nat) (ks : List Str) (gV : List V → List V → List V) : Prop where
  ex : ∃ (f : Addr) (fd : FuncData) (ps : List Str) (g : List Value → List Value → List Value), Mk K C f ∧ FnOk P w K mg base (L2N.CX P w) k f fd ps sp ∧ mg x = some (.ref C) ∧ KBn K fd ps (n + 1) ks g gV
/-- an exception class made by its name, its own __init__ keeping sp -/
structure MakX (k : Nat) (x : Str) (C : Addr) (sp : Sp) : Prop where
  ex : ∃ (f : Addr) (fd : FuncData) (ps : List Str), OexC K C ∧ PySem.W.findIn K (.ref C) "__init__" = some (some (.ref f)) ∧ PySem.W.typeIn K (.ref f) = some (.type "function") ∧ FnOk P w K mg base (L2N.CX P w) k f fd ps sp ∧ mg x = some (.ref C) ∧ Binds K fd ps []
end
/-- what a call lets out, wished for by W -/
def tCallW (sp : Sp) (dvs : List V) (W : WX) (t : TA) : TE := fun σ H Q => t σ H fun vs H1 => sp (vs ++ dvs) H1 Q (fun cls d H' => W cls d σ H')
def tMethW (C : Addr) (m : Str) (sp : Sp) (dvs : List V) (W : WX) (ta : TE) (t : TA) : TE := fun σ H Q => ta σ H fun x H1 => ∃ a dx fs, x = .ref a ∧ H1 a = some (.ins C dx fs) ∧ fs.lookup m = none ∧
  t σ H1 fun vs H2 => sp (x :: (vs ++ dvs)) H2 Q (fun cls d H' => W cls d σ H')
def tMakeW (C : Addr) (sp : Sp) (dvs : List V) (W : WX) (t : TA) : TE := fun σ H Q => t σ H fun vs H1 => ∀ x dx, H1 x = none → H1 dx = none → dx ≠ x →
  sp (.ref x :: (vs ++ dvs)) (upd (upd H1 dx (.own x)) x (.ins C dx [])) (fun v H2 => v = .non ∧ Q (.ref x) H2) (fun cls d H' => W cls d σ H')
section
variable {X : Cx} {k j : Nat} {f C : Addr} {fd : FuncData} {ps : List Str} {sp : Sp} {dvs : List V} {ds : List Value} {W : WX} {x m : Str} {p pos apos : Pos} {e o : Expr} {es : List Expr} {ta : TE} {t : TA}
theorem passW (tk : L2N.Takes X W) (σ : L2.St) : PassesAt (L2N.CX X.prog X.w) X σ (fun cls d H => W cls d σ H) := L2N.passAt tk σ
theorem pe_c (c : Cal X.prog X.w X.K X.mg X.base k x sp dvs) (hr : Room j X.A) (hk : k ≤ j) (tk : L2N.Takes X W) (ha : PA X (e :: es) t) (hg : Gl X x := by rfl)
    (hdb : (x == ("__debug__" : Str)) = false := by decide) (he : starEach (e :: es) X.env = (false, eval e X.env) :: starEach es X.env := by rfl) (hpl : (backTo pos (starEach es X.env)).any (·.1) = false := by rfl) :
    PE X (.Call (.Name x p) (e :: es) [] pos) (tCallW sp dvs W t) := by
  obtain ⟨f, fd, ps, ds, F, hm, kp, b, d⟩ := c.ex
  exact pe_callSD (E := fun σ cls d H => W cls d σ H) F (hr.mono hk) hg hm kp b d (passW tk) ha hdb he hpl
/-- making an instance, the wish at the slots -/
theorem run_mkS {pi : List (Addr × Obj)} {sl : L2.St} {H0 : Hp} {s0 : Shared} {Q0 : VK} {us : List Value} {xs : List V} {E0 : XK} (M : Mk X.K C f) (F : FnOk X.prog X.w X.K X.mg X.base (L2N.CX X.prog X.w) k f fd ps sp) (hr : Room (k + 1) X.A) (hb : Binds X.K fd ps ds) (hd : Vals dvs ds)
    (hx : PassesAt (L2N.CX X.prog X.w) X sl E0) (J : Inv X pi sl H0 s0) (r : Vals xs us)
    (h : ∀ y dy, H0 y = none → H0 dy = none → dy ≠ y → sp (.ref y :: (xs ++ dvs)) (upd (upd H0 dy (.own y)) y (.ins C dy [])) (fun v H2 => v = .non ∧ Q0 (.ref y) H2) E0) :
    wpAny (model X.prog X.w) X.A (call (.ref C) us) (EP X pi sl Q0) X.xe s0 := by
  have g1 := J.hok.fresh (Nat.le_succ s0.heap.objs.size)
  have g2 := J.hok.fresh (Nat.le_refl s0.heap.objs.size)
  have asked := h _ _ g1 g2 (Nat.ne_of_lt (Nat.lt_succ_self _))
  have J2 := Inv.made (C := C) J
  have rs : Vals (V.ref (s0.heap.objs.size + 1) :: (xs ++ dvs)) (Value.ref (s0.heap.objs.size + 1) :: (us ++ ds)) := .cons rfl (r.append hd)
  have sz : (Value.ref (s0.heap.objs.size + 1) :: us ++ ds).length = ps.length := rs.length.symm.trans (F.len _ _ _ _ asked)
  have bd := hb _ (Value.ref (s0.heap.objs.size + 1) :: us) J2.kIn sz
  have run := F.run (X.A.under (.builtin "type.__call__" ⟨.ref C :: us, []⟩)) X.stack _ _ ⟨Value.ref (s0.heap.objs.size + 1) :: us, []⟩ _ _ _ _ (hr.make C us []) (J2.env0.make C us []) bd rs asked
  refine wpAny_call (make_map (f := f) J.kIn M.makes M.init (beq_iff_eq.mp M.fn) (codeAny_mono run fun fin s1 hq => ?_))
  match fin, hq with
  | .error er, hq => exact hx pi _ _ er s1 J2 hq
  | .ok (.ret u), hq =>
    obtain ⟨v, H3, J3, rv, ev, q3⟩ := J2.after hq
    subst ev
    exact ⟨rv, ⟨V.ref (s0.heap.objs.size + 1), H3, J3, rfl, q3⟩⟩
theorem pe_mk (c : Mak X.prog X.w X.K X.mg X.base k x C sp dvs) (hr : Room j X.A) (hk : k + 1 ≤ j) (tk : L2N.Takes X W) (ha : PA X (e :: es) t) (hg : Gl X x := by rfl)
    (hdb : (x == ("__debug__" : Str)) = false := by decide) (he : starEach (e :: es) X.env = (false, eval e X.env) :: starEach es X.env := by rfl) (hpl : (backTo pos (starEach es X.env)).any (·.1) = false := by rfl) :
    PE X (.Call (.Name x p) (e :: es) [] pos) (tMakeW C sp dvs W t) := by
  obtain ⟨f, fd, ps, ds, M, F, hm, b, d⟩ := c.ex
  refine ⟨fun pi s0 sl H0 Q0 J h0 => ?_⟩
  refine wpAny_Call_Name_kw (ld_glob J hg hm ?_ hdb)
  refine PySem.W.callWith_K (h₀ := X.base) J.ok.mod.kin M.kp (thn (ha.run pos pi s0 sl H0 _ J h0) fun us s1 ⟨xs, H1, J1, r, q⟩ => ⟨J1.kIn, ?_⟩) he hpl
  exact run_mkS M F (hr.mono hk) b d (passW tk sl) J1 r q
theorem pe_mkk {n : Nat} {ks : List Str} {gV : List V → List V → List V} {E : XK} {kws : List Keyword} {tw : TA} (c : MakK X.prog X.w X.K X.mg X.base k x C sp n ks gV) (hr : Room j X.A) (hk : k + 1 ≤ j) (hx : Passes (L2N.CX X.prog X.w) X E) (ha : PA X (e :: es) t) (hkw : PK X kws tw) (hg : Gl X x := by rfl)
    (hall : (backToKw pos (keywordEach kws X.env)).all (·.1.isSome) = true := by rfl) (hks : (backToKw pos (keywordEach kws X.env)).filterMap (·.1) = ks := by rfl)
    (hdb : (x == ("__debug__" : Str)) = false := by decide) (he : starEach (e :: es) X.env = (false, eval e X.env) :: starEach es X.env := by rfl)
    (hpl : ((backTo pos (starEach (e :: es) X.env)).any (·.1) || (backToKw pos (keywordEach kws X.env)).any (·.1.isNone)) = false := by rfl) :
    PE X (.Call (.Name x p) (e :: es) kws pos) (tMakeN C n ks.length sp gV E t tw) := by
  obtain ⟨f, fd, ps, g, M, F, hm, b⟩ := c.ex
  exact pe_makeN M F (hr.mono hk) hg hm b hx ha hkw hall hks hdb he hpl
/-- o.m(..) of an own class -/
theorem pe_mt {pl : Sem Bool} (c : Met X.prog X.w X.K X.mg X.base k C m sp dvs) (hr : Room j X.A) (hk : k ≤ j) (tk : L2N.Takes X W) (ho : PE X o ta) (ha : PA X (e :: es) t)
    (hst : starEach (e :: es) X.env = (false, eval e X.env) :: starEach es X.env := by rfl) (hpl : (backTo pos (starEach es X.env)).any (·.1) = false := by rfl)
    (ht : eval (.Call (.Attribute o m apos) (e :: es) [] pos) X.env = (do
      let ov ← eval o X.env; standAt apos.atName
      let (f, first) ← holding [ov] (getMethod ov m pl); callWith pos f first (backTo pos (starEach (e :: es) X.env)) (backToKw pos (keywordEach [] X.env))) := by rfl) :
    PE X (.Call (.Attribute o m apos) (e :: es) [] pos) (tMethW C m sp dvs W ta t) := by
  obtain ⟨f, fd, ps, ds, hc, hm, F, b, d⟩ := c.ex
  refine ⟨fun pi s0 sl H0 Q0 J h0 => ?_⟩
  refine PySem.W.methodCall_KW (pl := pl) (thn (ho.run pi s0 sl H0 _ J h0) fun u s1 ⟨y, H1, J1, ry, a, dy, fs, ey, ea, l, q⟩ => ?_) ht
  subst ey
  obtain rfl : u = Value.ref a := ry
  refine getmeth_ok J1 ea hc hm l ?_
  refine PySem.W.callWith_K (first := [.ref a]) (h₀ := X.base) J.ok.mod.kin hm.kp (thn (ha.run pos pi s1 sl H1 _ J1 q) fun us s2 ⟨xs, H2, J2, r, q2⟩ => ⟨J2.kIn, ?_⟩) hst hpl
  exact run_fnSD (us := .ref a :: us) (vs := .ref a :: xs) (E := fun σ cls d H => W cls d σ H) F (hr.mono hk) b d (passW tk sl) J2 (.cons rfl r) q2
theorem pe_mt0 {pl : Sem Bool} (c : Met X.prog X.w X.K X.mg X.base k C m sp dvs) (hr : Room j X.A) (hk : k ≤ j) (tk : L2N.Takes X W) (ho : PE X o ta)
    (ht : eval (.Call (.Attribute o m apos) [] [] pos) X.env = (do
      let ov ← eval o X.env; standAt apos.atName
      let (f, first) ← holding [ov] (getMethod ov m pl); callWith pos f first (backTo pos (starEach [] X.env)) (backToKw pos (keywordEach [] X.env))) := by rfl) :
    PE X (.Call (.Attribute o m apos) [] [] pos) (tMethW C m sp dvs W ta tNil) := by
  obtain ⟨f, fd, ps, ds, hc, hm, F, b, d⟩ := c.ex
  refine ⟨fun pi s0 sl H0 Q0 J h0 => ?_⟩
  refine PySem.W.methodCall_KW (pl := pl) (thn (ho.run pi s0 sl H0 _ J h0) fun u s1 ⟨y, H1, J1, ry, a, dy, fs, ey, ea, l, q⟩ => ?_) ht
  subst ey
  obtain rfl : u = Value.ref a := ry
  refine getmeth_ok J1 ea hc hm l ?_
  exact PySem.W.callWith_K0 (first := [.ref a]) J1.kIn hm.kp (run_fnSD (us := [.ref a]) (vs := [.ref a]) (E := fun σ cls d H => W cls d σ H) F (hr.mono hk) b d (passW tk sl) J1 (.cons rfl .nil) q)
end
end Z
set_option maxHeartbeats 4000000
namespace Z
open PySem PySem.Spec PyProof.Rows L2
section
variable {X : Cx} {k j : Nat} {C : Addr} {sp : Sp} {W : WX} {x : Str} {p pos : Pos} {e : Expr} {es : List Expr} {t : TA}
/-- X(), X an own exception class without an __init__ of the text -/
theorem pmk_x0 {bmB : List Value} {B newId initId : String} (F : ExcBaseFacts B newId initId bmB) (q : PySem.W.excIn X.K C bmB newId = true) (gC : X.mg x = some (.ref C)) (kC : PySem.W.keepIn X.K (.ref C) = true) (r : Raises X (.ref C)) (hg : Gl X x := by rfl)
    (hdb : (x == ("__debug__" : Str)) = false := by decide) : L2N.PMk X (.Call (.Name x p) [] [] pos) (fun _ H Q => Q (.ref C) none H) := by
  intro pi s0 sl H0 Q0 J h0
  refine wpAny_Call_Name_kw (ld_glob J hg gC ?_ hdb)
  refine PySem.W.callWith_K0 J.kIn kC ?_
  show wpAny _ _ (call (.ref C) []) _ _ _
  obtain ⟨bm, N, nm, qn, bs, hdct, sn, sub, ab, col, dd, k0, k1, k2, k3, k5, mN, hC, hN, hni, T⟩ := exc_obj J.kIn q
  refine wpAny_call_exc_subT F T hC hN hni (fun h1 e1 hm => ?_) (Nat.zero_le _)
  exact L2N.mk_of J hm r h0 (J.hok.gone hm.new)
/-- C(..), C's own __init__ keeping sp: what is left is an exception without a context -/
theorem run_exc {fI : Addr} {fd : FuncData} {ps : List Str} {pi : List (Addr × Obj)} {sl : L2.St} {H1 : Hp} {s1 : Shared} {Q0 : XK} {us : List Value} {xs : List V} (T : OexC X.K C) (iC : PySem.W.findIn X.K (.ref C) "__init__" = some (some (.ref fI)))
    (tI : PySem.W.typeIn X.K (.ref fI) = some (.type "function")) (F1 : FnOk X.prog X.w X.K X.mg X.base (L2N.CX X.prog X.w) k fI fd ps sp) (hr : Room (k + 1) X.A) (hb : Binds X.K fd ps []) (hx : Passes (L2N.CX X.prog X.w) X (fun _ _ _ => False)) (J1 : Inv X pi sl H1 s1) (r1 : Vals xs us) (hz : xs.length ≤ 1000)
    (q1 : ∀ a, H1 a = none → sp (.ref a :: (xs ++ [])) (upd H1 a (exo a C none)) (fun v H2 => v = .non ∧ ∃ (d : Addr) (fs : List (Str × V)), H2 a = some (exo a C (some d)) ∧ H2 d = some (exd d fs) ∧ H1 d = none ∧ Q0 (.ref C) (some d) (upd (del H2 a) d (.xd fs))) (fun _ _ _ => False)) :
    wpAny (model X.prog X.w) X.A (call (.ref C) us) (L2N.MkP X pi sl Q0) X.xe s1 := by
  obtain ⟨nm, q, N, bs, bm, sn, sub, ab, col, dd, k0, k1, k2, k3, k5, hC, hbm⟩ := T.cls
  obtain ⟨hp, g, dr, tk, os⟩ := s1
  have sz0 := Nat.le_succ hp.objs.size
  have nw : H1 (hp.objs.size + 1) = none := J1.hok.fresh sz0
  have asked := q1 _ nw
  have old : ∀ b o, hp.get? b = some o → ((hp.push (PySem.W.kdv_tup us)).push (PySem.HandSPX.excO C hp.objs.size)).get? b = some o := fun b o e1 => Heap.get?_push_of_some _ (Heap.get?_push_of_some _ e1)
  have at_new : ((hp.push (PySem.W.kdv_tup us)).push (PySem.HandSPX.excO C hp.objs.size)).get? (hp.objs.size + 1) = some (PySem.HandSPX.excO C hp.objs.size) := by heap_get
  have J2 := J1.laid (t' := tk) (a := hp.objs.size + 1) (o := exo (hp.objs.size + 1) C none) old sz0 (exo_ok at_new)
  have r2 : Vals (V.ref (hp.objs.size + 1) :: (xs ++ [])) (Value.ref (hp.objs.size + 1) :: (us ++ [])) := .cons rfl (r1.append .nil)
  have szl : (Value.ref (hp.objs.size + 1) :: us ++ []).length = ps.length := r2.length.symm.trans (F1.len _ _ _ _ asked)
  have szu : us.length ≤ sizeLine := by rw [← Paired.length r1, sizeLine_eq]; omega
  have bd := hb _ (Value.ref (hp.objs.size + 1) :: us) J2.kIn szl
  have run := F1.run (X.A.under (.builtin "type.__call__" ⟨.ref C :: us, []⟩)) X.stack _ _ ⟨Value.ref (hp.objs.size + 1) :: us, []⟩ _ _ _ (fun _ _ _ => False) (hr.make C us []) (J2.env0.make C us []) bd r2 asked
  have looks := PySem.W.looks_findIn (M := model X.prog X.w) J1.kIn iC
  refine wpAny_call (PySem.HandSPX.call_own PySem.F.excBase_ValueError (fun Y => PySem.HandSPX.refsVE_contains Y bm hbm) (J1.kIn _ _ hC) looks (fun self => PySem.W.bind_fn J1.kIn self tI) szu (codeAny_mono run fun fin s3 hq => ?_))
  match fin, hq with
  | .error er, hq => exact hx pi sl _ _ er s3 J2 hq
  | .ok (.ret u), hq =>
    obtain ⟨v, H2, os2, bare2, un2, hok2, rv, ev, d, fs, ea, ed, hd1, q2⟩ := hq
    subst ev
    obtain ⟨h2, g2, d2, t2, os'⟩ := s3
    obtain ⟨t0, G, J3, kG, ge, hoe, na⟩ := mk_end0 (d2 := d2) (t2 := t2) J1 sz0 old un2 hok2 os2 bare2 ea ed hd1
    exact ⟨rv, _, _, _, ⟨G, g2, d2, t2, os'⟩, _, .ref C, some d, rfl, J3, kG, ge, hoe, ⟨rfl, rfl, fun vs ev => by cases ev; rfl⟩, rfl, rfl, na, rfl, bare2, raises_own T.exC T.tyC, q2⟩
theorem pmk_x (c : MakX X.prog X.w X.K X.mg X.base k x C sp) (hr : Room j X.A) (hk : k + 1 ≤ j) (hx : Passes (L2N.CX X.prog X.w) X (fun _ _ _ => False)) (ha : PA X (e :: es) t) (hg : Gl X x := by rfl)
    (hdb : (x == ("__debug__" : Str)) = false := by decide) (he : starEach (e :: es) X.env = (false, eval e X.env) :: starEach es X.env := by rfl) (hpl : (backTo pos (starEach es X.env)).any (·.1) = false := by rfl) :
    L2N.PMk X (.Call (.Name x p) (e :: es) [] pos) (tMkO C sp [] t) := by
  obtain ⟨f, fd, ps, T, iC, tI, F, hm, b⟩ := c.ex
  intro pi s0 sl H0 Q0 J h0
  refine wpAny_Call_Name_kw (ld_glob J hg hm ?_ hdb)
  refine PySem.W.callWith_K (h₀ := X.base) J.ok.mod.kin T.kC (thn (ha.run pos pi s0 sl H0 _ J h0) fun us s1 ⟨xs, H1, J1, r1, hz, q1⟩ => ⟨J1.kIn, ?_⟩) he hpl
  exact run_exc T iC tI F (hr.mono hk) b hx J1 r1 hz q1
theorem passF : Passes (L2N.CX X.prog X.w) X (fun _ _ _ => False) := fun _ _ _ _ _ _ _ h => by
  obtain ⟨_, _, _, _, _, _, _, _, _, _, _, _, z⟩ := h
  exact z.elim
def rOwn1 (C : Addr) (sp : Sp) (E : XK) : V → Hp → VK → Prop := fun x H Q => ∃ a dx fs, x = .ref a ∧ H a = some (.ins C dx fs) ∧ sp [.ref a] H Q E
def rOwn2 (C : Addr) (sp : Sp) (E : XK) : R2 := fun x y H Q => ∃ a b dx dy fs gs, x = .ref a ∧ y = .ref b ∧ H a = some (.ins C dx fs) ∧ H b = some (.ins C dy gs) ∧ sp [.ref a, .ref b] H (fun v H' => (∃ q, v = .ref q) ∧ Q v H') E
theorem un_own (c : Met X.prog X.w X.K X.mg X.base k C "__neg__" sp []) (hr : Room j X.A) (hk : k ≤ j) {E : XK} (hx : Passes (L2N.CX X.prog X.w) X E) : UnR X (unaryOp .USub) (rOwn1 C sp E) := by
  intro pi s0 sl H0 y v Q0 J ry h0
  obtain ⟨a, dy, fs, rfl, ea, q⟩ := h0
  obtain rfl : v = Value.ref a := ry
  obtain ⟨f, fd, ps, ds, hc, hm, F, b, d⟩ := c.ex
  obtain ⟨mA, O, _⟩ := ins_get J.hok ea
  obtain ⟨od, I0, _⟩ := O.look
  obtain ⟨m0, fr⟩ := J.fr
  refine PySem.W.ksp_neg fr J.ok.mod.kin I0 hm.at_ hm.fn ?_
  exact run_fn (us := [.ref a]) (vs := [.ref a]) F (hr.mono hk) b d hx J (.cons rfl .nil) q
theorem ref_cls {pi : List (Addr × Obj)} {s0 : Shared} {sl : L2.St} {H0 : Hp} {b dy : Addr} {gs : List (Str × V)} (J : Inv X pi sl H0 s0) (eb : H0 b = some (.ins C dy gs)) {M : Model} : PySem.W.Looks M s0.heap (typeOf (.ref b)) (.ref C) := by
  obtain ⟨mA, O, _⟩ := ins_get J.hok eb
  obtain ⟨od, I0, _⟩ := O.look
  exact I0.type
theorem op_own {op : Operator} {m : Str} (hop : PySem.dunder op.info.2 = m) (hs : PySem.W.selfFirst X.K C = true) (c : Met X.prog X.w X.K X.mg X.base k C m sp []) (hr : Room j X.A) (hk : k ≤ j) {E : XK} (hx : Passes (L2N.CX X.prog X.w) X E) : OpR X (binaryOp op) (rOwn2 C sp E) := by
  intro pi s0 sl H0 y z v u Q0 J ry rz h0
  obtain ⟨a, b, dy, dz, fs, gs, rfl, rfl, ea, eb, q⟩ := h0
  obtain rfl : v = Value.ref a := ry
  obtain rfl : u = Value.ref b := rz
  obtain ⟨f, fd, ps, ds, hc, hm, F, bd, d⟩ := c.ex
  obtain ⟨mA, O, _⟩ := ins_get J.hok ea
  obtain ⟨od, I0, _⟩ := O.look
  obtain ⟨m0, fr⟩ := J.fr
  refine PySem.W.binop_K fr J.ok.mod.kin I0 (ref_cls J eb) hs (by rw [hop]; exact hm.at_) hm.fn ?_
  cases d
  refine wpAny_mono (run_fn (us := [.ref a, .ref b]) (vs := [.ref a, .ref b]) F (hr.mono hk) bd .nil hx J (.cons rfl (.cons rfl .nil)) q) (fun r s1 hq => ?_) fun _ _ z => z
  obtain ⟨v1, H1, J1, rv, ⟨q1, e1⟩, q2⟩ := hq
  subst e1
  obtain rfl : r = Value.ref q1 := rv
  exact ⟨.ref q1, H1, J1, rfl, q2⟩
def rOr (r r' : R2) : R2 := fun x y H Q => r x y H Q ∨ r' x y H Q
def rOr1 (r r' : V → Hp → VK → Prop) : V → Hp → VK → Prop := fun x H Q => r x H Q ∨ r' x H Q
theorem op_or2 {f : Value → Value → Sem Value} {r r' : R2} (h : OpR X f r) (h' : OpR X f r') : OpR X f (rOr r r') := by
  intro pi s0 sl H0 y z v u Q0 J ry rz h0
  rcases h0 with h0 | h0
  · exact h _ _ _ _ _ _ _ _ _ J ry rz h0
  · exact h' _ _ _ _ _ _ _ _ _ J ry rz h0
theorem un_or2 {f : Value → Sem Value} {r r' : V → Hp → VK → Prop} (h : UnR X f r) (h' : UnR X f r') : UnR X f (rOr1 r r') := by
  intro pi s0 sl H0 y v Q0 J ry h0
  rcases h0 with h0 | h0
  · exact h _ _ _ _ _ _ _ J ry h0
  · exact h' _ _ _ _ _ _ _ J ry h0
def zNeg : V → Hp → VK → Prop := fun x H Q => ∃ i, x = .int i ∧ Q (.int (-i)) H
def zAdd : R2 := fun x y H Q => ∃ i j, x = .int i ∧ y = .int j ∧ Q (.int (i + j)) H
def zSub : R2 := fun x y H Q => ∃ i j, x = .int i ∧ y = .int j ∧ Q (.int (i - j)) H
/-- a size of bits -/
def Bits (n : Nat) (i : Int) : Prop := i.natAbs < 2 ^ n
def zMul : R2 := fun x y H Q => ∃ i j, x = .int i ∧ y = .int j ∧ IntMulOk i j ∧ Q (.int (i * j)) H
def zDiv : R2 := fun x y H Q => ∃ i j, x = .int i ∧ y = .int j ∧ (j ≠ 0 ∧ j.natAbs.log2 < 9000) ∧ Q (.int (i.fdiv j)) H
def zMod : R2 := fun x y H Q => ∃ i j, x = .int i ∧ y = .int j ∧ 0 < j ∧ Q (.int (i % j)) H
def zPow : R2 := fun x y H Q => ∃ i j, x = .int i ∧ y = .int j ∧ CPow i j ∧ Q (.int (i ^ j.toNat)) H
def zLt : R2 := fun x y H Q => ∃ i j, x = .int i ∧ y = .int j ∧ Q (.bl (decide (i < j))) H
def zLe : R2 := fun x y H Q => ∃ i j, x = .int i ∧ y = .int j ∧ Q (.bl (decide (i ≤ j))) H
def zGt : R2 := fun x y H Q => ∃ i j, x = .int i ∧ y = .int j ∧ Q (.bl (decide (j < i))) H
def zGe : R2 := fun x y H Q => ∃ i j, x = .int i ∧ y = .int j ∧ Q (.bl (decide (j ≤ i))) H
def zIsN : R2 := fun x y H Q => y = .non ∧ Q (.bl (decide (x = .non))) H
def zNotN : R2 := fun x y H Q => y = .non ∧ Q (.bl (!decide (x = .non))) H
theorem o_neg : UnR X (unaryOp .USub) zNeg := un_neg
theorem o_add : OpR X (binaryOp .Add) zAdd := op_add
theorem o_sub : OpR X (binaryOp .Sub) zSub := op_sub
theorem o_mul : OpR X (binaryOp .Mult) zMul := opI fun _ _ _ _ _ _ _ hc q => mul_int q hc
theorem o_div : OpR X (binaryOp .FloorDiv) zDiv := opI (C := fun _ j => j ≠ 0 ∧ j.natAbs.log2 < 9000) fun _ _ _ _ _ _ _ hc q => floordiv_int hc.1 q (.inl (PyProof.noPylong_of_log2 hc.2))
theorem o_mod : OpR X (binaryOp .Mod) zMod := op_mod
theorem o_lt : OpR X (compareOp .Lt) zLt := op_lt
theorem o_gt : OpR X (compareOp .Gt) zGt := op_gt
theorem o_notN : OpR X (compareOp .IsNot) zNotN := op_notN
end
section
variable {K : PySem.W.Frag} {σ : L2.St} {H : Hp} {Q : VK} {v : V} {ta tb te : TE} {r r' : R2}
theorem z_var {i : Nat} (h : σ[i]? = some (some v)) (q : Q v H) : tVar i σ H Q := ⟨v, h, q⟩
theorem z_c (q : Q v H) : tC v σ H Q := q
theorem z_op (q : ta σ H fun x H1 => tb σ H1 fun y H2 => r x y H2 Q) : tOp r ta tb σ H Q := q
theorem z_un {u : V → Hp → VK → Prop} (q : ta σ H fun x H1 => u x H1 Q) : tUn u ta σ H Q := q
theorem z_neg {i : Int} (q : Q (.int (-i)) H) : zNeg (.int i) H Q := ⟨i, rfl, q⟩
theorem z_add {i j : Int} (q : Q (.int (i + j)) H) : zAdd (.int i) (.int j) H Q := ⟨i, j, rfl, rfl, q⟩
theorem z_sub {i j : Int} (q : Q (.int (i - j)) H) : zSub (.int i) (.int j) H Q := ⟨i, j, rfl, rfl, q⟩
theorem z_mul {i j : Int} (c : IntMulOk i j) (q : Q (.int (i * j)) H) : zMul (.int i) (.int j) H Q := ⟨i, j, rfl, rfl, c, q⟩
theorem z_mulL {i j : Int} (h1 : -18446744073709551616 < i) (h2 : i < 18446744073709551616) (q : Q (.int (i * j)) H) : zMul (.int i) (.int j) H Q := z_mul (CMul.ok (.inl ⟨by simpa using h1, by simpa using h2⟩)) q
theorem z_mulR {i j : Int} (h1 : -18446744073709551616 < j) (h2 : j < 18446744073709551616) (q : Q (.int (i * j)) H) : zMul (.int i) (.int j) H Q := z_mul (CMul.ok (.inr ⟨by simpa using h1, by simpa using h2⟩)) q
theorem z_mulB {i j : Int} {a b : Nat} (ha : Bits a i) (hb : Bits b j) (h0 : 0 < a) (h1 : 0 < b) (h : a + b ≤ 1000000) (q : Q (.int (i * j)) H) : zMul (.int i) (.int j) H Q := z_mul (CMulW.ok (wide_mul ha hb h0 h1 h)) q
theorem z_divN {i j : Int} {b : Nat} (h : j ≠ 0) (hb : Bits b j) (h0 : 0 < b) (h9 : b ≤ 9000) (q : Q (.int (i.fdiv j)) H) : zDiv (.int i) (.int j) H Q := ⟨i, j, rfl, rfl, ⟨h, Nat.lt_of_lt_of_le (PySem.Flt.log2_lt_of h0 hb) h9⟩, q⟩
theorem z_div {i j : Int} {b : Nat} (h : 0 < j) (hb : Bits b j) (h0 : 0 < b) (h9 : b ≤ 9000) (q : Q (.int (i / j)) H) : zDiv (.int i) (.int j) H Q := z_divN (by omega) hb h0 h9 (by rw [Int.fdiv_eq_ediv_of_nonneg i (by omega)]; exact q)
theorem z_divS {i j : Int} (h : 0 < j) (h2 : j < 18446744073709551616) (q : Q (.int (i / j)) H) : zDiv (.int i) (.int j) H Q := z_div (b := 64) h (by unfold Bits; have e : (2 : Nat) ^ 64 = 18446744073709551616 := by decide
                                                                                                                                                      omega) (by decide) (by decide) q
theorem z_mod {i j : Int} (c : 0 < j) (q : Q (.int (i % j)) H) : zMod (.int i) (.int j) H Q := ⟨i, j, rfl, rfl, c, q⟩
theorem z_pow {i j : Int} (c : CPow i j) (q : Q (.int (i ^ j.toNat)) H) : zPow (.int i) (.int j) H Q := ⟨i, j, rfl, rfl, c, q⟩
theorem z_lt {i j : Int} (q : Q (.bl (decide (i < j))) H) : zLt (.int i) (.int j) H Q := ⟨i, j, rfl, rfl, q⟩
theorem z_le {i j : Int} (q : Q (.bl (decide (i ≤ j))) H) : zLe (.int i) (.int j) H Q := ⟨i, j, rfl, rfl, q⟩
theorem z_gt {i j : Int} (q : Q (.bl (decide (j < i))) H) : zGt (.int i) (.int j) H Q := ⟨i, j, rfl, rfl, q⟩
theorem z_ge {i j : Int} (q : Q (.bl (decide (j ≤ i))) H) : zGe (.int i) (.int j) H Q := ⟨i, j, rfl, rfl, q⟩
theorem z_isN {x : V} (q : Q (.bl (decide (x = .non))) H) : zIsN x .non H Q := ⟨rfl, q⟩
theorem z_notN {x : V} (q : Q (.bl (!decide (x = .non))) H) : zNotN x .non H Q := ⟨rfl, q⟩
theorem z_eqI {i j : Int} (q : Q (.bl (decide (i = j))) H) : rEq (.int i) (.int j) H Q := ⟨rfl, by
  have e : decide (V.int i = V.int j) = decide (i = j) := by rw [Bool.eq_iff_iff]; simp
  rw [e]; exact q⟩
theorem z_neI {i j : Int} (q : Q (.bl (!decide (i = j))) H) : rNe (.int i) (.int j) H Q := ⟨rfl, by
  have e : decide (V.int i = V.int j) = decide (i = j) := by rw [Bool.eq_iff_iff]; simp
  rw [e]; exact q⟩
theorem z_nil {QA : List V → Hp → Prop} (q : QA [] H) : tNil σ H QA := q
theorem z_cons {tr : TA} {QA : List V → Hp → Prop} (q : ta σ H fun x H1 => tr σ H1 fun xs H2 => QA (x :: xs) H2) : tCons ta tr σ H QA := q
theorem z_call {sp : Sp} {dvs : List V} {W : WX} {t : TA} (q : t σ H fun vs H1 => sp (vs ++ dvs) H1 Q (fun cls d H' => W cls d σ H')) : tCallW sp dvs W t σ H Q := q
theorem z_cb {rc : List V → Hp → VK → Prop} {t : TA} (q : t σ H fun vs H1 => rc vs H1 Q) : tCB rc t σ H Q := q
theorem z_if {tt : TT} (q : tt σ H fun c H1 => if c = true then ta σ H1 Q else tb σ H1 Q) : tIf tt ta tb σ H Q := q
theorem z_andV (q : ta σ H fun x H1 => ∃ c, x = .bl c ∧ if c = true then tb σ H1 Q else Q (.bl false) H1) : tAndV ta tb σ H Q := q
theorem z_orV (q : ta σ H fun x H1 => ∃ c, x = .bl c ∧ if c = true then Q (.bl true) H1 else tb σ H1 Q) : tOrV ta tb σ H Q := q
theorem z_notV (q : ta σ H fun x H1 => ∃ c, x = .bl c ∧ Q (.bl (!c)) H1) : tNotV ta σ H Q := q
variable {QB : Bool → Hp → Prop} {b : Bool} {tt tu : TT}
theorem z_test (q : te σ H fun x H1 => ∃ k, x = .bl k ∧ QB k H1) : tTest te σ H QB := q
theorem z_tb (q : te σ H fun x H1 => ∃ k, x = .bl k ∧ QB k H1) : tB te σ H QB := q
theorem z_bl (q : QB b H) : ∃ k, V.bl b = .bl k ∧ QB k H := ⟨b, rfl, q⟩
theorem z_blI {P : Bool → Prop} (q : P b) : ∃ k, V.bl b = .bl k ∧ P k := ⟨b, rfl, q⟩
theorem z_and (q : tt σ H fun c H1 => if c = true then tu σ H1 QB else QB false H1) : tAnd tt tu σ H QB := q
theorem z_or (q : tt σ H fun c H1 => if c = true then QB true H1 else tu σ H1 QB) : tOr tt tu σ H QB := q
theorem z_not (q : tt σ H fun c H1 => QB (!c) H1) : tNot tt σ H QB := q
variable {D : Ends} {t u : TS}
theorem z_seq (q : t { D with nx := u D } σ H) : tSeq t u D σ H := q
theorem z_next (q : D.nx σ H) : tNext D σ H := q
theorem z_asg {i : Nat} (q : te σ H fun x H1 => D.nx (σ.set i (some x)) H1) : tAsg te (gName i) D σ H := q
theorem z_ret (q : te σ H D.rt) : tRet te D σ H := q
theorem z_retN (q : D.rt .non H) : tRetN D σ H := q
theorem z_drop (q : te σ H fun _ H1 => D.nx σ H1) : tDrop te D σ H := q
theorem z_ifS (q : tt σ H fun b H1 => if b = true then t D σ H1 else u D σ H1) : tIfS tt t u D σ H := q
theorem z_par {i j : Nat} {ta : TA} (q : ta σ H fun vs H1 => ∃ v w, vs = [v, w] ∧ D.nx ((σ.set i (some v)).set j (some w)) H1) : tPar i j ta D σ H := q
theorem z_par2 {v w : V} {P : V → V → Prop} (q : P v w) : ∃ v' w', [v, w] = [v', w'] ∧ P v' w' := ⟨v, w, rfl, q⟩
theorem z_nx {n : L2.St → Hp → Prop} {rt : VK} {bk ct : L2.St → Hp → Prop} (q : n σ H) : Ends.nx ⟨n, rt, bk, ct⟩ σ H := q
theorem z_rt {n : L2.St → Hp → Prop} {rt : VK} {bk ct : L2.St → Hp → Prop} (q : rt v H) : Ends.rt ⟨n, rt, bk, ct⟩ v H := q
theorem z_bk {n : L2.St → Hp → Prop} {rt : VK} {bk ct : L2.St → Hp → Prop} (q : bk σ H) : Ends.bk ⟨n, rt, bk, ct⟩ σ H := q
theorem z_ct {n : L2.St → Hp → Prop} {rt : VK} {bk ct : L2.St → Hp → Prop} (q : ct σ H) : Ends.ct ⟨n, rt, bk, ct⟩ σ H := q
theorem z_break (q : D.bk σ H) : tBreak D σ H := q
theorem z_cont (q : D.ct σ H) : tCont D σ H := q
/-- a decided branch -/
theorem z_T {A B : Prop} (h : A) : if true = true then A else B := by rw [if_pos rfl]; exact h
theorem z_F {A B : Prop} (h : B) : if false = true then A else B := by rw [if_neg Bool.false_ne_true]; exact h
theorem z_dT {c : Prop} [Decidable c] {A B : Prop} (hc : c) (h : A) : if decide c = true then A else B := by rw [if_pos (decide_eq_true hc)]; exact h
theorem z_dF {c : Prop} [Decidable c] {A B : Prop} (hc : ¬ c) (h : B) : if decide c = true then A else B := by rw [decide_eq_false hc, if_neg Bool.false_ne_true]; exact h
theorem z_d2 {c : Prop} [Decidable c] {A B : Prop} (h1 : c → A) (h2 : ¬ c → B) : if decide c = true then A else B := by
  by_cases h : c
  · exact z_dT h (h1 h)
  · exact z_dF h (h2 h)
theorem z_nn {b : Bool} {A B : Prop} (h : if b = true then B else A) : if (!b) = true then A else B := by
  cases b
  · exact z_T (by simpa using h)
  · exact z_F (by simpa using h)
end
end Z
set_option maxHeartbeats 4000000
namespace Z
open PySem PySem.Spec PyProof.Rows L2
abbrev Frag := PySem.W.Frag
abbrev Chk := Frag → Bool
abbrev SeenZ : Type := Bool × List He.FnW
def seenK (fb : List Chk) (fn : List He.DefD) (K : Frag) : SeenZ := ((fb.all fun c => c K) && fn.all fun d => d.ok K, fn.map fun d => He.fnW K d.at_)
def dueK (fn : List He.DefD) : SeenZ := (true, fn.map He.DefD.val)
def Says (fb : List Chk) (fn : List He.DefD) (K : Frag) : Prop := seenK fb fn K = dueK fn
section
variable {fb : List Chk} {fn : List He.DefD} {K : Frag}
theorem Says.fact (c : Says fb fn K) (i : Nat) {f : Chk} (h : fb[i]? = some f := by rfl) : f K = true := by
  have q := (He.ba (congrArg (fun z : SeenZ => z.1) c)).1
  exact List.all_eq_true.mp q f (List.mem_of_getElem? h)
theorem Says.def_ (c : Says fb fn K) (i : Nat) {d : He.DefD} (h : fn[i]? = some d := by rfl) : ∃ fd, FunD K d.name d.qual d.params d.body d.scope (d.dvs K) (d.kws K) (He.fAd K d.at_) fd := by
  have q := (He.ba (congrArg (fun z : SeenZ => z.1) c)).2
  have e : fn.map (fun d => He.fnW K d.at_) = fn.map He.DefD.val := congrArg (fun z : SeenZ => z.2) c
  have e2 := congrArg (fun l => l[i]?) e
  simp only [List.getElem?_map, h, Option.map_some] at e2
  exact He.DefD.funD (Option.some.inj e2) (List.all_eq_true.mp q d (List.mem_of_getElem? h))
end
def cGlo (x : Str) : Chk := fun K => (He.Fa.glo x).ok K
def cFree (x : Str) : Chk := fun K => (He.Fa.free x).ok K
def cVal (x : Str) (id : String) : Chk := fun K => He.eqO (PySem.W.nsIn K mainGlobals x) (some (some (.builtin id)))
def cCls (x : Str) : Chk := fun K => (He.Fa.cls x).ok K
def cNo (x f : Str) : Chk := fun K => (He.Fa.noat x f).ok K
def cMeth (x m : Str) : Chk := fun K => (He.Fa.meth x m).ok K
def cMk (x : Str) : Chk := fun K => (He.Fa.mkr x).ok K
def cExc0 (x : Str) : Chk := fun K => (He.Fa.exc x).ok K
def cSelf (x : Str) : Chk := fun K => PySem.W.selfFirst K (He.ga K x)
/-- an exception class whose own __init__ is walked -/
def oexB (K : Frag) (C : Addr) : Bool := match K.lookup C with
  | some ⟨.type t, _, .cls cd, sl⟩ => (match cd.mro, sl.toList with
    | .ref C' :: bm, [_, _, _, _, some (.builtin n), _] => decide (t = "type") && (decide (C' = C) && (decide (n = "ValueError.__new__") && (!cd.hasDel && (cd.hasDict && PySem.HandSPX.refsVE bm))))
    | _, _ => false)
  | _ => false
theorem oexB_ok {K : Frag} {C : Addr} (h : oexB K C = true) : ∃ nm q N bs bm sn sub ab col dd k0 k1 k2 k3 k5, K.lookup C = some (excClassObj nm q C N bs bm true sn sub ab col dd k0 k1 k2 k3 k5 "ValueError.__new__") ∧ PySem.HandSPX.refsVE bm = true := by
  unfold oexB at h
  split at h
  · rename_i t dd cd sl ho
    split at h
    · rename_i C' bm k0 k1 k2 k3 n k5 hm hs
      obtain ⟨h1, h⟩ := He.ba h
      obtain ⟨h2, h⟩ := He.ba h
      obtain ⟨h3, h⟩ := He.ba h
      obtain ⟨h4, h⟩ := He.ba h
      obtain ⟨h5, h6⟩ := He.ba h
      have e1 := of_decide_eq_true h1
      have e2 := of_decide_eq_true h2
      have e3 := of_decide_eq_true h3
      obtain ⟨nm, bs, mro, ns, qn, hd, sn, sub, ab, col, del⟩ := cd
      have e4 : del = false := by simpa using h4
      have e5 : hd = true := h5
      dsimp only at hm
      subst hm e4 e5 e1 e2 e3
      have hsl : sl = #[k0, k1, k2, k3, some (.builtin "ValueError.__new__"), k5] := by
        obtain ⟨l⟩ := sl
        simp only at hs
        rw [hs]
      subst hsl
      exact ⟨nm, qn, ns, bs, bm, sn, sub, ab, col, dd, k0, k1, k2, k3, k5, ho, h6⟩
    · cases h
  · cases h
def cOex (x : Str) : Chk := fun K => oexB K (He.ga K x) && (He.eqO (PySem.W.findIn K (.ref (He.ga K x)) "__setattr__") (some (some (.builtin "object.__setattr__"))) && (decide (PySem.W.subIn K (.ref (He.ga K x)) (.type "BaseException") = some true) &&
  (decide (PySem.W.typeIn K (.ref (He.ga K x)) = some (.type "type")) && (PySem.W.keepIn K (.ref (He.ga K x)) && (He.eqO (PySem.W.findIn K (.ref (He.ga K x)) "__init__") (some (some (.ref (He.ma K (He.ga K x) "__init__")))) && decide (PySem.W.typeIn K (.ref (He.ma K (He.ga K x) "__init__")) = some (.type "function")))))))
theorem oex_ok {K : Frag} {x : Str} (h : cOex x K = true) : OexC K (He.ga K x) ∧ PySem.W.findIn K (.ref (He.ga K x)) "__init__" = some (some (.ref (He.ma K (He.ga K x) "__init__"))) ∧ PySem.W.typeIn K (.ref (He.ma K (He.ga K x) "__init__")) = some (.type "function") := by
  obtain ⟨h1, h⟩ := He.ba h
  obtain ⟨h2, h⟩ := He.ba h
  obtain ⟨h3, h⟩ := He.ba h
  obtain ⟨h4, h⟩ := He.ba h
  obtain ⟨h5, h⟩ := He.ba h
  obtain ⟨h6, h7⟩ := He.ba h
  exact ⟨⟨oexB_ok h1, He.eqO_ok h2, of_decide_eq_true h3, of_decide_eq_true h4, h5⟩, He.eqO_ok h6, of_decide_eq_true h7⟩
/-- isinstance of an instance of this class -/
structure InsK (K : Frag) (C : Addr) : Prop where
  cl : Cls K C
  ha : PySem.W.findIn K (.ref C) "__class__" = some (some (.builtin "object.__class__"))
  hn : PySem.W.specialIn K (.builtin "object.__class__") "__get__" = some (some (.builtin "getset_descriptor.__get__"))
  ht : PySem.W.takesIn K (.builtin "object.__class__") = some true
  hm : PySem.W.mroIn K C (.type "object") = some true
theorem InsK.ty {K : Frag} {C a dx : Addr} {fs : List (Str × V)} {H : Hp} (c : InsK K C) (h : H a = some (.ins C dx fs)) : TyX K H (.ref a) (.ref C) := .base (.ins h c.cl c.ha c.hn c.ht c.hm)
def cIns (x : Str) : Chk := fun K => (He.Fa.cls x).ok K && (He.eqO (PySem.W.findIn K (.ref (He.ga K x)) "__class__") (some (some (.builtin "object.__class__"))) && (decide (PySem.W.specialIn K (.builtin "object.__class__") "__get__" = some (some (.builtin "getset_descriptor.__get__"))) &&
  (decide (PySem.W.takesIn K (.builtin "object.__class__") = some true) && decide (PySem.W.mroIn K (He.ga K x) (.type "object") = some true))))
theorem insK_ok {K : Frag} {x : Str} (h : cIns x K = true) : InsK K (He.ga K x) := by
  obtain ⟨h1, h⟩ := He.ba h
  obtain ⟨h5, h⟩ := He.ba h
  obtain ⟨h6, h⟩ := He.ba h
  obtain ⟨h7, h8⟩ := He.ba h
  exact ⟨He.cls_ok h1, He.eqO_ok h5, of_decide_eq_true h6, of_decide_eq_true h7, of_decide_eq_true h8⟩
/-- isinstance's answer for an instance of x asked for the class y; for a value of the built-in type t asked for y; for an instance of x asked for the built-in type t -/
def cKit (x y : Str) (b : Bool) : Chk := fun K => decide (PySem.W.kitOne K (.ref (He.ga K x)) (.ref (He.ga K y)) = some b)
section
variable {X : Cx} {k j : Nat} {sp : Sp} {x : Str} {p pos : Pos} {e : Expr} {es : List Expr} {t : TA}
theorem takesF {X : Cx} : L2N.Takes X (fun _ _ _ _ => False) := fun _ _ ⟨_, _, _, _, _, _, _, _, _, _, _, _, _, _, _, _, z⟩ => z.elim
end
theorem pe_ty {X : Cx} {x : Str} {pos : Pos} (n : String) (hg : Gl X x) (hm : X.mg x = none) (hv : bootBuiltins x = some (.type n)) (hn : x ≠ "__name__" := by decide) (hd : (x == ("__debug__" : Str)) = false := by decide) : PE X (.Name x pos) (tC (.ty n)) :=
  pe_bltn (v := .ty n) (u := .type n) hg hm hv rfl hn hd
theorem pe_cls {X : Cx} {x : Str} {pos : Pos} {a : Addr} (hm : X.mg x = some (.ref a)) (hg : Gl X x := by rfl) (hd : (x == ("__debug__" : Str)) = false := by decide) : PE X (.Name x pos) (tC (.ref a)) :=
  pe_glob (v := .ref a) (u := .ref a) hg hm rfl hd
abbrev F1 := V → Hp → VK → XK → Prop
abbrev F2 := V → V → Hp → VK → XK → Prop
abbrev F3 := V → V → V → Hp → VK → XK → Prop
abbrev F4 := V → V → V → V → Hp → VK → XK → Prop
abbrev F5 := V → V → V → V → V → Hp → VK → XK → Prop
def sp1 (f : F1) : Sp := fun vs H Q E => ∃ a, vs = [a] ∧ f a H Q E
def sp2 (f : F2) : Sp := fun vs H Q E => ∃ a b, vs = [a, b] ∧ f a b H Q E
def sp3 (f : F3) : Sp := fun vs H Q E => ∃ a b c, vs = [a, b, c] ∧ f a b c H Q E
def sp4 (f : F4) : Sp := fun vs H Q E => ∃ a b c d, vs = [a, b, c, d] ∧ f a b c d H Q E
def sp5 (f : F5) : Sp := fun vs H Q E => ∃ a b c d e, vs = [a, b, c, d, e] ∧ f a b c d e H Q E
section
variable {H : Hp} {Q : VK} {E : XK} {a b c d e g : V} {vs : List V}
theorem len1 {f : F1} : ∀ vs H Q E, sp1 f vs H Q E → vs.length = 1 := by rintro _ _ _ _ ⟨_, rfl, _⟩; rfl
theorem len2 {f : F2} : ∀ vs H Q E, sp2 f vs H Q E → vs.length = 2 := by rintro _ _ _ _ ⟨_, _, rfl, _⟩; rfl
theorem len3 {f : F3} : ∀ vs H Q E, sp3 f vs H Q E → vs.length = 3 := by rintro _ _ _ _ ⟨_, _, _, rfl, _⟩; rfl
theorem len4 {f : F4} : ∀ vs H Q E, sp4 f vs H Q E → vs.length = 4 := by rintro _ _ _ _ ⟨_, _, _, _, rfl, _⟩; rfl
theorem len5 {f : F5} : ∀ vs H Q E, sp5 f vs H Q E → vs.length = 5 := by rintro _ _ _ _ ⟨_, _, _, _, _, rfl, _⟩; rfl
theorem z_sq0 {sp : Sp} (h : sp vs H Q E) : sp (vs ++ []) H Q E := by rw [List.append_nil]; exact h
theorem z_sq1 {sp : Sp} (h : sp (a :: vs) H Q E) : sp (a :: (vs ++ [])) H Q E := by rw [List.append_nil]; exact h
end
end Z
namespace Z
open PySem PySem.Spec PyProof.Rows L2
/-- a def of which nothing is raised -/
theorem fn_quiet {P : Program} {w : World} {K : Frag} {mg : Str → Option Value} {base : Heap} {k : Nat} {f : Addr} {fd : FuncData} {ps : List Str} {sp : Sp} (F : FnOk P w K mg base (L2N.CX P w) k f fd ps sp) (hs : ∀ vs H Q E, sp vs H Q E → sp vs H Q (fun _ _ _ => False)) :
    FnOk P w K mg base L2.CX0 k f fd ps sp :=
  ⟨F.len, fun A outer s H args us vs Q E hr he hb hv h => codeAny_mono (F.run A outer s H args us vs Q _ hr he hb hv (hs _ _ _ _ h)) fun r s1 q => by
    match r, q with
    | .ok (.ret u), q => exact q
    | .error e, q =>
      obtain ⟨_, _, _, _, _, _, _, _, _, _, _, _, z⟩ := q
      exact z.elim⟩
end Z
set_option maxHeartbeats 4000000
namespace Z
open PySem PySem.Spec PyProof.Rows L2
section
variable {K : Frag} {H H' H1 H2 : Hp} {Q : VK} {a : Addr} {xs : List V} {o : HO}
theorem Same.at (e : Same H H') (h : H a = some o) : H' a = some o := e a o h
theorem Same.new {p : Addr} (h : H p = none) : Same H (upd H p o) := fun b u hb => by rw [upd_ne (ne_of_none hb h)]; exact hb
theorem z_ixT {p : Addr} {i : Int} {v : V} (h : H p = some (.tup xs)) (e : atI xs i = some v) (q : Q v H) : rIx K (.ref p) (.int i) H Q := .inr (.inl ⟨p, xs, i, v, rfl, rfl, SqT.of h, e, q⟩)
theorem z_ixL {p : Addr} {i : Int} {v : V} (h : SqL K H p xs) (e : atI xs i = some v) (q : Q v H) : rIx K (.ref p) (.int i) H Q := .inl ⟨p, xs, i, v, rfl, rfl, h, e, q⟩
theorem z_new {t : List V → HO} {n : Nat} (hn : n ≤ 16777216) (k : ∀ p, H p = none → Same H (upd H p (t xs)) → upd H p (t xs) p = some (t xs) → Q (.ref p) (upd H p (t xs))) : n ≤ sizeLine ∧ ∀ p, H p = none → Q (.ref p) (upd H p (t xs)) :=
  ⟨by rw [sizeLine_eq]; exact hn, fun p hp => k p hp (Same.new hp) upd_same⟩
def rInt1 : List V → Hp → VK → Prop := fun xs H Q => (∃ i, xs = [.int i] ∧ Q (.int i) H) ∨ ∃ k, xs = [.bl k] ∧ Q (.int (if k then 1 else 0)) H
def rAbs1 : List V → Hp → VK → Prop := fun xs H Q => ∃ i, xs = [.int i] ∧ Q (.int (if i < 0 then -i else i)) H
def rLen1 (K : Frag) : List V → Hp → VK → Prop := fun xs H Q => ∃ x n, xs = [x] ∧ LenV K x H n ∧ Q (.int n) H
def rMax2z : List V → Hp → VK → Prop := fun xs H Q => ∃ i j, xs = [.int i, .int j] ∧ Q (.int (if j > i then j else i)) H
theorem z_int1 {n : Int} (q : Q (.int n) H) : rInt1 [.int n] H Q := .inl ⟨n, rfl, q⟩
theorem z_intb {b : Bool} (q : Q (.int (if b then 1 else 0)) H) : rInt1 [.bl b] H Q := .inr ⟨b, rfl, q⟩
theorem z_abs {n : Int} (q : Q (.int (n.natAbs : Int)) H) : rAbs1 [.int n] H Q := ⟨n, rfl, by
  have e : (if n < 0 then -n else n) = (n.natAbs : Int) := by split <;> omega
  rw [e]; exact q⟩
theorem z_lenL {p : Addr} (h : SqL K H p xs) (q : Q (.int (xs.length : Int)) H) : rLen1 K [.ref p] H Q := ⟨_, _, rfl, .inl ⟨xs, h, rfl⟩, q⟩
theorem z_lenT {p : Addr} (h : H p = some (.tup xs)) (q : Q (.int (xs.length : Int)) H) : rLen1 K [.ref p] H Q := ⟨_, _, rfl, .inr ⟨xs, SqT.of h, rfl⟩, q⟩
theorem z_max2 {i j : Int} (q : Q (.int (max i j)) H) : rMax2z [.int i, .int j] H Q := ⟨i, j, rfl, by
  have e : (if j > i then j else i) = max i j := by rw [Int.max_def]; split <;> split <;> omega
  rw [e]; exact q⟩
theorem z_gcd {i j : Int} (q : Q (.int (Int.gcd i j : Nat)) H) : rGcd [.int i, .int j] H Q := ⟨i, j, rfl, q⟩
theorem z_isi {x c : V} {t u : Value} {b : Bool} (hc : ClsV c u) (ht : TyX K H x t) (hk : PySem.W.kitOne K t u = some b) (q : Q (.bl b) H) : rIsi K [x, c] H Q := ⟨x, c, t, u, b, rfl, hc, ht, hk, q⟩
theorem z_isiI {n : String} {b : Bool} {i : Int} (hk : kitB "int" n = some b) (q : Q (.bl b) H) : rIsi K [.int i, .ty n] H Q := z_isi (.ty n) (.base (.int i)) (kit_ty hk) q
theorem z_isi_ii {i : Int} (q : Q (.bl true) H) : rIsi K [.int i, .ty "int"] H Q := z_isiI (by decide +kernel) q
theorem z_isi_ib {i : Int} (q : Q (.bl false) H) : rIsi K [.int i, .ty "bool"] H Q := z_isiI (by decide +kernel) q
end
section
variable {X : Cx}
theorem o_int1 : CallR X (.type "int") rInt1 := call_int1
theorem o_abs : CallR X (.builtin "abs") rAbs1 := call_abs
theorem o_len : CallR X (.builtin "len") (rLen1 X.K) := call_len
end
/-- the fields of a Ratio -/
def rF (v w : V) : List (Str × V) := [(("top" : Str), v), (("bottom" : Str), w)]
/-- a Ratio with these fields -/
def IsR (K : Frag) (H : Hp) (a : Addr) (t b : Int) : Prop := ∃ dx, H a = some (.ins (He.ga K "Ratio") dx (rF (.int t) (.int b)))
section
variable {K : Frag} {H H' : Hp} {Q : VK} {a : Addr} {t b : Int} {v w : V}
theorem IsR.mono (e : Same H H') (h : IsR K H a t b) : IsR K H' a t b := h.elim fun dx q => ⟨dx, e _ _ q⟩
theorem tb_ne : ¬ (("top" : Str) = "bottom") := by decide +kernel
theorem bt_ne : ¬ (("bottom" : Str) = "top") := by decide +kernel
theorem rf_top : (rF v w).lookup ("top" : Str) = some v := by
  unfold rF
  rw [lookup_put, if_pos rfl]
theorem rf_bottom : (rF v w).lookup ("bottom" : Str) = some w := by
  unfold rF
  rw [lookup_put, if_neg bt_ne, lookup_put, if_pos rfl]
theorem rf_no {m : Str} (h1 : ¬ m = "top") (h2 : ¬ m = "bottom") : (rF v w).lookup m = none := by
  unfold rF
  rw [lookup_put, if_neg h1, lookup_put, if_neg h2]
  rfl
/-- .. of a name that holds one -/
theorem z_fldt {i : Nat} {p : Addr} {t b : Int} {σ : L2.St} (c : Cls K (He.ga K "Ratio")) (n : NoAttr K (He.ga K "Ratio") "top") (hs : σ[i]? = some (some (.ref p))) (h : IsR K H p t b) (q : Q (.int t) H) : tFld K (tVar i) "top" σ H Q :=
  ⟨_, hs, h.elim fun dx hp => ⟨p, _, dx, _, _, rfl, hp, c, n, rf_top, q⟩⟩
theorem z_fldb {i : Nat} {p : Addr} {t b : Int} {σ : L2.St} (c : Cls K (He.ga K "Ratio")) (n : NoAttr K (He.ga K "Ratio") "bottom") (hs : σ[i]? = some (some (.ref p))) (h : IsR K H p t b) (q : Q (.int b) H) : tFld K (tVar i) "bottom" σ H Q :=
  ⟨_, hs, h.elim fun dx hp => ⟨p, _, dx, _, _, rfl, hp, c, n, rf_bottom, q⟩⟩
end
end Z
set_option maxHeartbeats 4000000
namespace Z
open PySem PySem.Spec PyProof.Rows L2
def fs_ex1 (K : Frag) (C : Str) (f : Str) : F2 := fun a b H Q _ => ∃ (e : Addr) (H0 : Hp), a = .ref e ∧ H = upd H0 e (exo e (He.ga K C) none) ∧ H0 e = none ∧
  ∀ (d : Addr) (H' : Hp), H' e = some (exo e (He.ga K C) (some d)) → H' d = some (exd d [(f, b)]) → H0 d = none → Same H0 (upd (del H' e) d (.xd [(f, b)])) → Q .non H'
section
variable {K : Frag} {H H0 : Hp} {Q : VK} {E : XK} {C : Str} {f g : Str} {b c : V} {D : Ends} {σ : L2.St}
/-- self.f = b -/
theorem run_ex1 {e : Addr} (T : OexC K (He.ga K C)) (nf : PySem.W.findIn K (.ref (He.ga K C)) f = some none) (h0 : H0 e = none) (s0 : σ[0]? = some (some (.ref e))) (s1 : σ[1]? = some (some b))
    (k : ∀ (d : Addr) (H' : Hp), H' e = some (exo e (He.ga K C) (some d)) → H' d = some (exd d [(f, b)]) → H0 d = none → Same H0 (upd (del H' e) d (.xd [(f, b)])) → D.nx σ H') :
    tOst K f (tVar 0) (tVar 1) D σ (upd H0 e (exo e (He.ga K C) none)) := by
  refine ⟨_, s1, _, s0, e, _, rfl, T, nf, .inl ⟨upd_same, fun d hd ne => ?_⟩⟩
  have hd0 : H0 d = none := by rw [upd_ne ne] at hd; exact hd
  refine k d _ upd_same (by rw [upd_ne ne, upd_same]) hd0 fun x o hx => ?_
  rw [upd_ne (ne_of_none hx hd0), del_ne (ne_of_none hx h0), upd_ne (ne_of_none hx h0), upd_ne (ne_of_none hx hd0), upd_ne (ne_of_none hx h0)]
  exact hx
end
def rc (n d : Int) : Int := if d < 0 then -((Int.gcd n d : Nat) : Int) else ((Int.gcd n d : Nat) : Int)
def rt (n d : Int) : Int := n.fdiv (rc n d)
def rb (n d : Int) : Int := d.fdiv (rc n d)
theorem rc_ne {n d : Int} (h : d ≠ 0) : rc n d ≠ 0 := by
  have : 0 < Int.gcd n d := Int.gcd_pos_of_ne_zero_right n h
  unfold rc
  split <;> omega
theorem rc_bits {n d : Int} {b : Nat} (h : d ≠ 0) (hb : Bits b d) : Bits b (rc n d) := by
  have h1 : Int.gcd n d ≤ d.natAbs := Nat.le_of_dvd (by omega) (by
    show Nat.gcd n.natAbs d.natAbs ∣ d.natAbs
    exact Nat.gcd_dvd_right _ _)
  unfold Bits at *
  unfold rc
  split <;> omega
theorem rt_pos {n d : Int} (h : 0 < d) : rt n d = n / (Int.gcd n d : Nat) ∧ rb n d = d / (Int.gcd n d : Nat) := by
  have e : rc n d = ((Int.gcd n d : Nat) : Int) := by unfold rc; rw [if_neg (by omega)]
  unfold rt rb
  rw [e, Int.fdiv_eq_ediv_of_nonneg _ (by omega), Int.fdiv_eq_ediv_of_nonneg _ (by omega)]
  exact ⟨rfl, rfl⟩
theorem rt_spec {n d : Int} (h : 0 < d) : 0 < rb n d ∧ Int.gcd (rt n d) (rb n d) = 1 ∧ rt n d * d = n * rb n d := by
  obtain ⟨e1, e2⟩ := rt_pos (n := n) h
  have g0 : 0 < Int.gcd n d := Int.gcd_pos_of_ne_zero_right n (by omega)
  rw [e1, e2]
  refine ⟨?_, ?_, ?_⟩
  · exact Int.ediv_pos_of_pos_of_dvd h (by omega) (Int.gcd_dvd_right ..)
  · exact Int.gcd_ediv_gcd_ediv_gcd g0
  · obtain ⟨x, ex⟩ := Int.gcd_dvd_left (a := n) (b := d)
    obtain ⟨y, ey⟩ := Int.gcd_dvd_right (a := n) (b := d)
    generalize ((Int.gcd n d : Nat) : Int) = g at *
    have gn : g ≠ 0 := by
      intro z
      subst z
      simp at ey
      omega
    have q1 : n / g = x := by rw [ex, Int.mul_ediv_cancel_left _ gn]
    have q2 : d / g = y := by rw [ey, Int.mul_ediv_cancel_left _ gn]
    rw [q1, q2, ex, ey]
    grind
def fs_rinit (K : Frag) : F3 := fun a b c H Q E => ∃ (x dx : Addr) (H0 : Hp) (n d : Int), a = .ref x ∧ b = .int n ∧ c = .int d ∧ H = upd (upd H0 dx (.own x)) x (.ins (He.ga K "Ratio") dx []) ∧ H0 x = none ∧ H0 dx = none ∧ dx ≠ x ∧ Bits 8999 d ∧
  (d ≠ 0 → ∀ H', Same H0 H' → IsR K H' x (rt n d) (rb n d) → Q .non H') ∧ (d = 0 → ∀ H', Same H0 H' → E (.ref (He.ga K "ZeroBottom")) none H')
section
variable {K : Frag} {H : Hp} {Q : VK} {E : XK}
/-- Ratio(n, d) -/
theorem z_mkR {n d : Int} (hd : d ≠ 0) (hb : Bits 8999 d) (k : ∀ p H', Same H H' → IsR K H' p (rt n d) (rb n d) → Q (.ref p) H') :
    ∀ x dx, H x = none → H dx = none → dx ≠ x → sp3 (fs_rinit K) [.ref x, .int n, .int d] (upd (upd H dx (.own x)) x (.ins (He.ga K "Ratio") dx [])) (fun v H2 => v = .non ∧ Q (.ref x) H2) E :=
  fun x dx hx hdx ne => ⟨_, _, _, rfl, x, dx, H, n, d, rfl, rfl, rfl, rfl, hx, hdx, ne, hb, fun _ H' e r => ⟨rfl, k x H' e r⟩, fun z => absurd z hd⟩
/-- the two stores -/
theorem run_rinit {D : Ends} {σ : L2.St} {x dx : Addr} {H0 : Hp} {C : Addr} {tv tu : TE} {a b : V} (cl : Cls K C) (n1 : NoAttr K C "top") (n2 : NoAttr K C "bottom") (h0 : H0 x = none) (h1 : H0 dx = none) (ne : dx ≠ x) (s0 : σ[0]? = some (some (.ref x)))
    (e1 : ∀ H1, ∀ Q : VK, Q a H1 → tv σ H1 Q) (e2 : ∀ H1, ∀ Q : VK, Q b H1 → tu σ H1 Q) (k : ∀ H', Same H0 H' → H' x = some (.ins C dx (rF a b)) → D.nx σ H') :
    tSeq (sFld K (tVar 0) tv "top") (sFld K (tVar 0) tu "bottom") D σ (upd (upd H0 dx (.own x)) x (.ins C dx [])) := by
  refine e1 _ _ ⟨_, s0, x, C, dx, _, rfl, upd_same, cl, n1, by decide, ?_⟩
  refine e2 _ _ ⟨_, s0, x, C, dx, _, rfl, upd_same, cl, n2, by show 1 < 1000; decide, ?_⟩
  refine k _ (fun y o hy => ?_) ?_
  · rw [upd_ne (ne_of_none hy h0), upd_ne (ne_of_none hy h0), upd_ne (ne_of_none hy h0), upd_ne (ne_of_none hy h1)]
    exact hy
  · rw [upd_same]
    have e : putF "bottom" b (putF "top" a []) = rF a b := by
      show (if ("top" : Str) = "bottom" then _ else (("top" : Str), a) :: putF "bottom" b []) = _
      rw [if_neg tb_ne]
      rfl
    rw [e]
end
end Z
namespace Z
open PySem PySem.Spec PyProof.Rows L2
end Z
set_option maxHeartbeats 4000000
namespace Z
open PySem PySem.Spec PyProof.Rows L2
section
variable {K : Frag} {σ : L2.St} {H : Hp} {Q : VK} {v : V} {ta tb te : TE} {t : TA} {sp : Sp} {dvs : List V} {W : WX} {C : Addr} {m : Str} {E : XK}
/-- a class is made of these values -/
def zMk (C : Addr) (sp : Sp) (dvs : List V) (E : XK) (vs : List V) (H : Hp) (Q : VK) : Prop := ∀ x dx, H x = none → H dx = none → dx ≠ x → sp (.ref x :: (vs ++ dvs)) (upd (upd H dx (.own x)) x (.ins C dx [])) (fun v H2 => v = .non ∧ Q (.ref x) H2) E
theorem z_mk (q : t σ H fun vs H1 => zMk C sp dvs (fun cls d H' => W cls d σ H') vs H1 Q) : tMakeW C sp dvs W t σ H Q := q
/-- a method of this value -/
def zMt (C : Addr) (m : Str) (x : V) (H : Hp) (R : Prop) : Prop := ∃ a dx fs, x = .ref a ∧ H a = some (.ins C dx fs) ∧ fs.lookup m = none ∧ R
theorem z_mt (q : ta σ H fun x H1 => zMt C m x H1 (t σ H1 fun vs H2 => sp (x :: (vs ++ dvs)) H2 Q (fun cls d H' => W cls d σ H'))) : tMethW C m sp dvs W ta t σ H Q := q
theorem z_mtR {p : Addr} {a b : Int} {R : Prop} (h : IsR K H p a b) (q : R) (h1 : ¬ m = "top" := by decide +kernel) (h2 : ¬ m = "bottom" := by decide +kernel) : zMt (He.ga K "Ratio") m (.ref p) H R := h.elim fun dx hp => ⟨p, dx, _, rfl, hp, rf_no h1 h2, q⟩
/-- a sign before a Ratio -/
theorem z_ownN {p : Addr} {a b : Int} {u : V → Hp → VK → Prop} (h : IsR K H p a b) (q : sp [.ref p] H Q E) : rOr1 u (rOwn1 (He.ga K "Ratio") sp E) (.ref p) H Q := .inr (h.elim fun dx hp => ⟨p, dx, _, rfl, hp, q⟩)
theorem z_ownI {i : Int} {u : V → Hp → VK → Prop} (q : u (.int i) H Q) : rOr1 u (rOwn1 C sp E) (.int i) H Q := .inl q
/-- numbers of up to 200 bits -/
theorem bits_of {i : Int} (h1 : -1606938044258990275541962092341162602522202993782792835301376 < i) (h2 : i < 1606938044258990275541962092341162602522202993782792835301376) : Bits 200 i := by
  unfold Bits
  have e : (2 : Nat) ^ 200 = 1606938044258990275541962092341162602522202993782792835301376 := by decide
  omega
theorem bits_up {i : Int} {a b : Nat} (h : Bits a i) (hb : a ≤ b) : Bits b i := Nat.lt_of_lt_of_le h (Nat.pow_le_pow_right (by decide) hb)
theorem z_mulW {i j : Int} (h1 : -1606938044258990275541962092341162602522202993782792835301376 < i) (h2 : i < 1606938044258990275541962092341162602522202993782792835301376) (h3 : -1606938044258990275541962092341162602522202993782792835301376 < j) (h4 : j < 1606938044258990275541962092341162602522202993782792835301376) (q : Q (.int (i * j)) H) : zMul (.int i) (.int j) H Q :=
  z_mulB (bits_of h1 h2) (bits_of h3 h4) (by decide) (by decide) (by decide) q
theorem z_divW {i j : Int} (h : 0 < j) (h2 : j < 1606938044258990275541962092341162602522202993782792835301376) (q : Q (.int (i / j)) H) : zDiv (.int i) (.int j) H Q := z_div h (bits_of (by omega) h2) (by decide) (by decide) q
/-- isinstance of a Ratio -/
theorem z_isR {p : Addr} {a b : Int} {C2 : Addr} {c : Bool} (I : InsK K (He.ga K "Ratio")) (hk : PySem.W.kitOne K (.ref (He.ga K "Ratio")) (.ref C2) = some c) (h : IsR K H p a b) (q : Q (.bl c) H) : rIsi K [.ref p, .ref C2] H Q := by
  obtain ⟨dx, hp⟩ := h
  exact z_isi (.own C2) (I.ty hp) hk q
def zRg (g : TG) (tb : TS) (D : Ends) (σ : L2.St) (vs : List V) (H1 : Hp) : Prop := ∃ i j : Int, vs = [.int i, .int j] ∧ (-(2 ^ 62) ≤ i ∧ i < 2 ^ 62 ∧ -(2 ^ 62) ≤ j ∧ j < 2 ^ 62) ∧ ∃ W : Nat → Nat → L2.St → Hp → Prop, (∃ m, W 0 m σ H1) ∧ ∀ k m σ H, W k m σ H →
    ((Itr i (j - i).toNat).stop k H ∧ D.nx σ H) ∨ ((Itr i (j - i).toNat).go k H ∧ ∃ N : L2.St → Hp → Prop, (∀ σ' H', N σ' H' → ∃ m', m' < m ∧ W (k + 1) m' σ' H') ∧ ∀ x H', (Itr i (j - i).toNat).yld k H x H' → g x σ H' fun σ2 H2 => tb { D with nx := N, ct := N, bk := D.nx } σ2 H2)
theorem z_for2 {g : TG} {tb : TS} {D : Ends} (q : t σ H fun vs H1 => zRg g tb D σ vs H1) : tFor (iRng2 t) g tb D σ H := q
/-- an exception with two fields is made -/
def zMkO (C : Addr) (sp : Sp) (dvs : List V) (vs : List V) (H1 : Hp) (Q : XK) : Prop := vs.length ≤ 1000 ∧ ∀ a, H1 a = none → sp (.ref a :: (vs ++ dvs)) (upd H1 a (exo a C none)) (fun v H2 => v = .non ∧ ∃ (d : Addr) (fs : List (Str × V)), H2 a = some (exo a C (some d)) ∧ H2 d = some (exd d fs) ∧ H1 d = none ∧ Q (.ref C) (some d) (upd (del H2 a) d (.xd fs))) (fun _ _ _ => False)
theorem z_mko {Q : XK} (q : t σ H fun vs H1 => zMkO C sp dvs vs H1 Q) : tMkO C sp dvs t σ H Q := q
theorem z_exo1 {c f : Str} {u : V} {Q : XK} (k : ∀ (d : Addr) (H' : Hp), Same H H' → H' d = some (.xd [(f, u)]) → Q (.ref (He.ga K c)) (some d) H') : zMkO (He.ga K c) (sp2 (fs_ex1 K c f)) [] [u] H Q :=
  ⟨by show 1 ≤ 1000; decide, fun a ha => ⟨_, _, rfl, a, H, rfl, rfl, ha, fun d H' e1 e2 hd s => ⟨rfl, d, _, e1, e2, hd, k d _ s upd_same⟩⟩⟩
end
end Z
namespace Z
open PySem PySem.Spec PyProof.Rows L2
section
variable {K : Frag} {σ : L2.St} {H : Hp} {Q : VK} {ta : TE} {t : TA} {g : TG}
/-- a tuple, a list just made -/
theorem z_newT {xs : List V} (hn : xs.length ≤ 16777216) (k : ∀ p, H p = none → Same H (upd H p (.tup xs)) → upd H p (.tup xs) p = some (.tup xs) → Q (.ref p) (upd H p (.tup xs))) : xs.length ≤ sizeLine ∧ ∀ p, H p = none → Q (.ref p) (upd H p (.tup xs)) :=
  z_new (t := .tup) hn k
theorem z_gn {i : Nat} {v : V} {D : L2.St → Hp → Prop} (q : D (σ.set i (some v)) H) : gName i v σ H D := q
theorem z_gcons {u : TGs} {v : V} {vs : List V} {D : L2.St → Hp → Prop} (q : g v σ H fun σ' H' => u vs σ' H' D) : gCons g u (v :: vs) σ H D := ⟨v, vs, rfl, q⟩
theorem z_gnil {D : L2.St → Hp → Prop} (q : D σ H) : gNil [] σ H D := ⟨rfl, q⟩
/-- a tuple taken apart -/
theorem z_gtup {D : L2.St → Hp → Prop} {p : Addr} {xs : List V} {n : Nat} {ts : TGs} (h : H p = some (.tup xs)) (hl : xs.length = n) (q : ts xs σ H D) : gTup K n ts (.ref p) σ H D := ⟨p, xs, rfl, SqT.of h, hl, q⟩
/-- two ends: a tuple of two tuples -/
def IsE (H : Hp) (e : Addr) (lt lb ht hb : Int) : Prop := ∃ a b, H e = some (.tup [.ref a, .ref b]) ∧ H a = some (.tup [.int lt, .int lb]) ∧ H b = some (.tup [.int ht, .int hb])
theorem IsE.mono {H' : Hp} {e : Addr} {lt lb ht hb : Int} (s : Same H H') (h : IsE H e lt lb ht hb) : IsE H' e lt lb ht hb := by
  obtain ⟨a, b, h1, h2, h3⟩ := h
  exact ⟨a, b, s _ _ h1, s _ _ h2, s _ _ h3⟩
def zNewT (xs : List V) (H : Hp) (Q : VK) : Prop := xs.length ≤ sizeLine ∧ ∀ p, H p = none → Q (.ref p) (upd H p (.tup xs))
def zNewL (xs : List V) (H : Hp) (Q : VK) : Prop := xs.length ≤ sizeLine ∧ ∀ p, H p = none → Q (.ref p) (upd H p (.lst xs))
theorem z_tupN (q : t σ H fun xs H1 => zNewT xs H1 Q) : tTup t σ H Q := q
theorem z_lstN (q : t σ H fun xs H1 => zNewL xs H1 Q) : tLst t σ H Q := q
theorem z_asgG {te : TE} {D : Ends} (q : te σ H fun x H1 => g x σ H1 D.nx) : tAsg te g D σ H := q
/-- the new heap under its own name -/
theorem z_nt {xs : List V} (hn : xs.length ≤ 16777216) (k : ∀ p H', H p = none → Same H H' → H' p = some (.tup xs) → Q (.ref p) H') : zNewT xs H Q :=
  z_newT hn fun p h1 h2 h3 => k p _ h1 h2 h3
end
end Z
set_option maxHeartbeats 4000000
namespace Z
open PySem PySem.Spec PyProof.Rows L2
section
variable {K : Frag} {σ : L2.St} {H : Hp} {Q : VK} {te : TE} {t tk : TA} {sp : Sp} {E : XK}
theorem z_nlR {xs : List V} (hn : xs.length ≤ 16777216) (k : ∀ p H', H p = none → Same H H' → H' p = some (.lst xs) → Q (.ref p) H') : zNewL xs H Q :=
  z_new (t := .lst) hn fun p h1 h2 h3 => k p _ h1 h2 h3
theorem z_p6 (q : Q (.int 1000000) H) : zPow (.int 10) (.int 6) H Q := z_pow ⟨by decide, by decide, by decide⟩ q
theorem z_p12 (q : Q (.int 1000000000000) H) : zPow (.int 10) (.int 12) H Q := z_pow ⟨by decide, by decide, by decide⟩ q
theorem z_p13 (q : Q (.int 10000000000000) H) : zPow (.int 10) (.int 13) H Q := z_pow ⟨by decide, by decide, by decide⟩ q
theorem z_calln {n m : Nat} {gV : List V → List V → List V} (q : t σ H fun vs H1 => tk σ H1 fun zs H2 => vs.length = n ∧ zs.length = m ∧ sp (gV vs zs) H2 Q E) : tCallN n m sp gV E t tk σ H Q := q
/-- a field of the caught exception -/
def zXf (a : Addr) (cls : Value) (d : Option Addr) (C : Addr) (f : Str) (x : V) (H : Hp) (Q : VK) : Prop := x = .ref a ∧ cls = .ref C ∧ ∃ (dd : Addr) (fs : List (Str × V)) (v : V), d = some dd ∧ H dd = some (.xd fs) ∧ fs.lookup f = some v ∧ Q v H
theorem z_xfS {a : Addr} {cls : Value} {d : Option Addr} {C : Addr} {f : Str} (q : te σ H fun x H1 => zXf a cls d C f x H1 Q) : tXf a cls d C f te σ H Q := q
end
/-- indexing, the fragment under its own name -/
theorem ix_seqK {X : Cx} {K : Frag} (h : X.K = K) : IxR X (rIx K) := by subst h; exact ix_seq
/-- the law's promise -/
def fs_law (K : Frag) : F1 := fun a H Q _ => ∃ (p : Addr) (ns : List Int), a = .ref p ∧ SqL K H p (ns.map V.int) ∧ ns.length ≤ 63 ∧ ∀ H', Q (.bl true) H'
theorem law_quiet {P : Program} {w : World} {K : Frag} {mg : Str → Option Value} {base : Heap} {j k : Nat} {f : Addr} {fd : FuncData} {ps : List Str} (F : FnOk P w K mg base (L2N.CX P w) j f fd ps (sp1 (fs_law K))) (h : j ≤ k) : FnOk P w K mg base L2.CX0 k f fd ps (sp1 (fs_law K)) :=
  (fn_quiet F fun _ _ _ _ h => h).mono h
theorem cut63 {ns : List Int} (h : ns.length ≤ 63) : cutV (ns.map V.int) none (some 63) = ns.map V.int := by
  have hl : (ns.map V.int).length ≤ 63 := by rw [List.length_map]; exact h
  generalize ns.map V.int = xs at *
  have e : HT.sIx xs.length xs.length (some 63) = xs.length := by
    have q := HT.sIx_nat xs.length xs.length 63
    rw [show ((63 : Nat) : Int) = 63 from rfl] at q
    rw [q]
    omega
  unfold cutV
  rw [e, HT.sIx_none, Nat.sub_zero, List.drop_zero, List.take_length]
end Z
set_option maxHeartbeats 4000000
namespace Z
open PySem PySem.Spec PyProof.Rows L2
section
variable {X : Cx}
def zCat : R2 := rOr zAdd rCat
def zRep : R2 := rOr zMul rRep
theorem o_cat : OpR X (binaryOp .Add) zCat := op_or2 o_add op_cat
theorem o_rep : OpR X (binaryOp .Mult) zRep := op_or2 o_mul op_rep
end
section
variable {K : Frag} {σ : L2.St} {H : Hp} {Q : VK} {a b : Addr} {xs ys : List V}
theorem lkA {f : Str} {v : V} {r : List (Str × V)} : ((f, v) :: r).lookup f = some v := by rw [lookup_put, if_pos rfl]
theorem lkB {f g : Str} {u v : V} {r : List (Str × V)} (h : ¬ f = g) (l : r.lookup f = some v) : ((g, u) :: r).lookup f = some v := by rw [lookup_put, if_neg h]; exact l
theorem z_catI {i j : Int} (q : Q (.int (i + j)) H) : zCat (.int i) (.int j) H Q := .inl (z_add q)
theorem z_cat (h1 : H a = some (.lst xs)) (h2 : H b = some (.lst ys)) (hn : xs.length + ys.length ≤ 16777216) (k : ∀ p H', H p = none → Same H H' → H' p = some (.lst (xs ++ ys)) → Q (.ref p) H') : zCat (.ref a) (.ref b) H Q :=
  .inr ⟨a, b, xs, ys, rfl, rfl, h1, h2, by rw [sizeLine_eq]; exact hn, fun p hp => k p _ hp (Same.new hp) upd_same⟩
theorem z_repL {i j : Int} (h1 : -18446744073709551616 < i) (h2 : i < 18446744073709551616) (q : Q (.int (i * j)) H) : zRep (.int i) (.int j) H Q := .inl (z_mulL h1 h2 q)
theorem z_repR {i j : Int} (h1 : -18446744073709551616 < j) (h2 : j < 18446744073709551616) (q : Q (.int (i * j)) H) : zRep (.int i) (.int j) H Q := .inl (z_mulR h1 h2 q)
/-- len, list(), tuple(), any() of a list -/
theorem z_lenLst (h : H a = some (.lst xs)) (q : Q (.int (xs.length : Int)) H) : rLen1 K [.ref a] H Q := z_lenL (SqL.of h) q
def rList1 (K : Frag) : List V → Hp → VK → Prop := fun vs H Q => ∃ p ys, vs = [.ref p] ∧ (SqL K H p ys ∨ SqT K H p ys) ∧ ∀ l, H l = none → Q (.ref l) (upd H l (.lst ys))
theorem z_listL (h : SqL K H a xs) (k : ∀ p H', H p = none → Same H H' → H' p = some (.lst xs) → Q (.ref p) H') : rList1 K [.ref a] H Q := ⟨a, xs, rfl, .inl h, fun p hp => k p _ hp (Same.new hp) upd_same⟩
theorem o_list1 {X : Cx} : CallR X (.type "list") (rList1 X.K) := call_list_of
def rTup1 (K : Frag) : List V → Hp → VK → Prop := fun xs H Q => ∃ p ys, xs = [.ref p] ∧ ((SqL K H p ys ∧ ∀ l, H l = none → Q (.ref l) (upd H l (.tup ys))) ∨ (SqT K H p ys ∧ Q (.ref p) H))
theorem z_allB {bs : List Bool} (h : H a = some (.lst (bs.map V.bl))) (q : Q (.bl (bs.all id)) H) : rAll K [.ref a] H Q := ⟨a, bs, rfl, SqL.of h, q⟩
theorem z_tsl {r : V → Option Int → Option Int → Hp → VK → Prop} {te : TE} {tl th : TO} (q : te σ H fun x H1 => tl σ H1 fun l H2 => th σ H2 fun u H3 => r x l u H3 Q) : tSl r te tl th σ H Q := q
theorem z_np {QO : Option Int → Hp → Prop} (q : QO none H) : tNoPart σ H QO := q
theorem z_pt {te : TE} {QO : Option Int → Hp → Prop} (q : te σ H fun x H1 => ∃ i, x = .int i ∧ QO (some i) H1) : tPart te σ H QO := q
theorem z_pti {i : Int} {P : Int → Prop} (q : P i) : ∃ j, V.int i = .int j ∧ P j := ⟨i, rfl, q⟩
/-- a place in a list of numbers -/
theorem at_int {ns : List Int} {k : Int} {v : Int} (h0 : 0 ≤ k) (h : ns[k.toNat]? = some v) : atI (ns.map V.int) k = some (.int v) := by
  obtain ⟨n, rfl⟩ := Int.eq_ofNat_of_zero_le h0
  refine atI_nat ?_
  rw [List.getElem?_map]
  have : ns[n]? = some v := h
  rw [this]
  rfl
end
section
variable {K : Frag} {σ : L2.St} {H1 : Hp} {Q : VK} {te : TE} {i j : Nat} {t : TA}
/-- what a comprehension's body is to give: the new list at D within -/
def zLc (J : It) (g : TG) (tt : TT) (te : TE) (vs : List Nat) (σ : L2.St) (H1 : Hp) (Q : VK) : Prop := ∀ D, H1 D = none → ∃ W : Nat → Nat → Hp → Prop, (∃ m, W 0 m (upd H1 D (.lst []))) ∧ ∀ i m H, W i m H →
  (J.stop i H ∧ Q (.ref D) H) ∨ (J.go i H ∧ ∃ Nx : Hp → Prop, (∀ H', Nx H' → ∃ m', m' < m ∧ W (i + 1) m' H') ∧ ∀ x H', J.yld i H x H' → g x (wipe σ vs) H' fun σ2 H2 => wipe σ2 vs = wipe σ vs ∧ tt σ2 H2 fun b H3 =>
    if b = true then te σ2 H3 fun y H4 => ∃ acc, H4 D = some (.lst acc) ∧ acc.length < sizeLine ∧ Nx (upd H4 D (.lst (acc ++ [y]))) else Nx H3)
/-- each turn gives f of its number, all that stood stands -/
theorem z_lcF {J : It} {n : Nat} {G : Hp → Prop} {Y : Nat → Hp → V → Hp → Prop} {g : TG} {vs : List Nat} (w : Walk J n G Y) (f : Nat → V) (hn : n ≤ 16777216) (hG : ∀ H', Same H1 H' → G H')
    (hs : ∀ k x H H' (N : VK), k < n → Same H1 H → Y k H x H' → (∀ H4, Same H H4 → N (f k) H4) → g x (wipe σ vs) H' fun σ2 H2 => wipe σ2 vs = wipe σ vs ∧ te σ2 H2 N)
    (k : ∀ D H', H1 D = none → Same H1 H' → H' D = some (.lst ((List.range n).map f)) → Q (.ref D) H') : zLc J g tYes te vs σ H1 Q := fun D hD => by
  refine lc_it w (fun i H => Same H1 H ∧ H D = some (.lst ((List.range i).map f))) ⟨Same.new hD, upd_same⟩ (fun i H hi p => hG H p.1) (fun i x H H' hi p y => ?_) (fun H p => k D H hD p.1 p.2)
  refine hs i x H H' _ hi p.1 y (fun H4 s4 => ?_)
  refine ⟨_, s4 _ _ p.2, ?_, ?_, ?_⟩
  · rw [List.length_map, List.length_range, sizeLine_eq]
    omega
  · intro b o hb
    rw [upd_ne (ne_of_none hb hD)]
    exact s4 _ _ (p.1 _ _ hb)
  · rw [upd_same, List.range_succ, List.map_append]
    rfl
def zLcL (K : Frag) (g : TG) (tt : TT) (te : TE) (vs : List Nat) (σ : L2.St) (x : V) (H1 : Hp) (Q : VK) : Prop := ∃ a, x = .ref a ∧ (∃ xs, SqL K H1 a xs) ∧ zLc (Itl K a) g tt te vs σ H1 Q
theorem z_lcS {g : TG} {tt : TT} {t : TE} {vs : List Nat} (q : t σ H1 fun x H2 => zLcL K g tt te vs σ x H2 Q) : tLc (iList K t) g tt te vs σ H1 Q := q
/-- over a range -/
def zLcR (g : TG) (tt : TT) (te : TE) (vs : List Nat) (σ : L2.St) (xs : List V) (H1 : Hp) (Q : VK) : Prop := ∃ j : Int, xs = [.int j] ∧ -(2 ^ 62) ≤ j ∧ j < 2 ^ 62 ∧ zLc (Itr 0 j.toNat) g tt te vs σ H1 Q
theorem z_lcRS {g : TG} {tt : TT} {t : TA} {vs : List Nat} (q : t σ H1 fun xs H2 => zLcR g tt te vs σ xs H2 Q) : tLc (iRng1 t) g tt te vs σ H1 Q := q
theorem z_lcR {n : Int} (f : Nat → V) {vs : List Nat} (h1 : -4611686018427387904 ≤ n) (h2 : n ≤ 16777216)
    (hs : ∀ (k : Nat) H (N : VK), k < n.toNat → Same H1 H → (∀ H4, Same H H4 → N (f k) H4) → wipe ((wipe σ vs).set i (some (.int k))) vs = wipe σ vs ∧ te ((wipe σ vs).set i (some (.int k))) H N)
    (k : ∀ D H', H1 D = none → Same H1 H' → H' D = some (.lst ((List.range n.toNat).map f)) → Q (.ref D) H') : zLcR (gName i) tYes te vs σ [.int n] H1 Q := by
  refine ⟨n, rfl, by omega, by omega, ?_⟩
  refine z_lcF (walk_range (lo := 0) (n := n.toNat)) f (by omega) (fun _ _ => trivial) (fun k x H H' N hk s y c => ?_) k
  obtain ⟨rfl, rfl⟩ := y
  have e : (0 : Int) + (k : Int) = k := Int.zero_add _
  dsimp only
  rw [e]
  exact hs k H' N hk s c
/-- over two lists of numbers at once -/
def zLcZ (K : Frag) (g : TG) (tt : TT) (te : TE) (vs : List Nat) (σ : L2.St) (xs : List V) (H1 : Hp) (Q : VK) : Prop := ∃ a b ys zs, xs = [.ref a, .ref b] ∧ SqL K H1 a ys ∧ SqL K H1 b zs ∧ zLc (Itz K a b) g tt te vs σ H1 Q
theorem z_lcZS {g : TG} {tt : TT} {t : TA} {vs : List Nat} (q : t σ H1 fun xs H2 => zLcZ K g tt te vs σ xs H2 Q) : tLc (iZip K t) g tt te vs σ H1 Q := q
/-- a loop over a list of numbers: I by the turn -/
def zFoL (K : Frag) (g : TG) (tb : TS) (D : Ends) (σ : L2.St) (x : V) (H1 : Hp) : Prop := ∃ a, x = .ref a ∧ (∃ xs, SqL K H1 a xs) ∧ ∃ W : Nat → Nat → L2.St → Hp → Prop, (∃ m, W 0 m σ H1) ∧ ∀ k m σ H, W k m σ H →
    ((Itl K a).stop k H ∧ D.nx σ H) ∨ ((Itl K a).go k H ∧ ∃ N : L2.St → Hp → Prop, (∀ σ' H', N σ' H' → ∃ m', m' < m ∧ W (k + 1) m' σ' H') ∧ ∀ x H', (Itl K a).yld k H x H' → g x σ H' fun σ2 H2 => tb { D with nx := N, ct := N, bk := D.nx } σ2 H2)
theorem z_foS {g : TG} {tb : TS} {D : Ends} {t : TE} (q : t σ H1 fun x H2 => zFoL K g tb D σ x H2) : tFor (iList K t) g tb D σ H1 := q
theorem z_foV {g : TG} {tb : TS} {D : Ends} {a : Addr} {xs : List V} (h : H1 a = some (.lst xs)) (I : Nat → L2.St → Hp → Prop) (h0 : I 0 σ H1) (hl : ∀ k σ H, I k σ H → H a = some (.lst xs))
    (hs : ∀ k x σ H, xs[k]? = some x → I k σ H → g x σ H fun σ2 H2 => tb { D with nx := I (k + 1), ct := I (k + 1), bk := D.nx } σ2 H2) (hd : ∀ σ H, I xs.length σ H → D.nx σ H) : zFoL K g tb D σ (.ref a) H1 :=
  ⟨a, rfl, ⟨_, SqL.of h⟩, for_it (walk_list (K := K) (a := a) (xs := xs)) I h0 (fun k σ H _ p => SqL.of (hl k σ H p)) (fun k x σ H H' _ p y => by
    obtain ⟨rfl, hx⟩ := y
    exact hs k x σ H' hx p) hd⟩
/-- a loop over range(n): I by the turn -/
def zFoR (g : TG) (tb : TS) (D : Ends) (σ : L2.St) (vs : List V) (H1 : Hp) : Prop := ∃ j : Int, vs = [.int j] ∧ -(2 ^ 62) ≤ j ∧ j < 2 ^ 62 ∧ ∃ W : Nat → Nat → L2.St → Hp → Prop, (∃ m, W 0 m σ H1) ∧ ∀ k m σ H, W k m σ H →
    ((Itr 0 j.toNat).stop k H ∧ D.nx σ H) ∨ ((Itr 0 j.toNat).go k H ∧ ∃ N : L2.St → Hp → Prop, (∀ σ' H', N σ' H' → ∃ m', m' < m ∧ W (k + 1) m' σ' H') ∧ ∀ x H', (Itr 0 j.toNat).yld k H x H' → g x σ H' fun σ2 H2 => tb { D with nx := N, ct := N, bk := D.nx } σ2 H2)
theorem z_for1 {g : TG} {tb : TS} {D : Ends} (q : t σ H1 fun vs H2 => zFoR g tb D σ vs H2) : tFor (iRng1 t) g tb D σ H1 := q
theorem z_foR {g : TG} {tb : TS} {D : Ends} {n : Int} (h1 : -4611686018427387904 ≤ n) (h2 : n < 4611686018427387904) (I : Nat → L2.St → Hp → Prop) (h0 : I 0 σ H1)
    (hs : ∀ (k : Nat) σ H, k < n.toNat → I k σ H → g (.int k) σ H fun σ2 H2 => tb { D with nx := I (k + 1), ct := I (k + 1), bk := D.nx } σ2 H2) (hd : ∀ σ H, I n.toNat σ H → D.nx σ H) : zFoR g tb D σ [.int n] H1 :=
  ⟨n, rfl, by omega, by omega, for_it (walk_range (lo := 0) (n := n.toNat)) I h0 (fun _ _ _ _ _ => trivial) (fun k x σ H H' hk p y => by
    obtain ⟨rfl, rfl⟩ := y
    have e : (0 : Int) + (k : Int) = k := Int.zero_add _
    dsimp only
    rw [e]
    exact hs k σ H' hk p) hd⟩
end
section
variable {X : Cx} {K : Frag} {f : Value}
theorem callK (r : Frag → List V → Hp → VK → Prop) (h : X.K = K) (c : CallR X f (r X.K)) : CallR X f (r K) := by subst h; exact c
theorem slK (r : Frag → V → Option Int → Option Int → Hp → VK → Prop) (h : X.K = K) (c : SlR X (r X.K)) : SlR X (r K) := by subst h; exact c
theorem pe_fldK {e : Expr} {ta : TE} {x : Str} {pos : Pos} (h : X.K = K) (he : PE X e ta) (hb : attributeBase e x X.env (eval e X.env) = eval e X.env) : PE X (.Attribute e x pos) (tFld K ta x) := by subst h; exact pe_fld he hb
theorem pi_listK {tg l : Expr} {tl : TE} (h : X.K = K) (hl : PE X l tl) : PI X tg l (iList K tl) := by subst h; exact pi_list hl
theorem pi_tupK {tg l : Expr} {tl : TE} (h : X.K = K) (hl : PE X l tl) : PI X tg l (iTup K tl) := by subst h; exact pi_tup hl
theorem piK {tg e : Expr} (w : Frag → TI) (h : X.K = K) (c : PI X tg e (w X.K)) : PI X tg e (w K) := by subst h; exact c
theorem pgK {tg : Expr} (w : Frag → TG) (h : X.K = K) (c : PG X tg (w X.K)) : PG X tg (w K) := by subst h; exact c
end
end Z
namespace Z
open PySem PySem.Spec PyProof.Rows L2
section
variable {K : Frag} {σ : L2.St} {H H' H1 : Hp} {Q : VK} {a p : Addr} {o : HO}
theorem z_isNI {i : Int} (q : Q (.bl false) H) : zIsN (.int i) .non H Q := z_isN (by simpa using q)
theorem z_isNN (q : Q (.bl true) H) : zIsN .non .non H Q := z_isN (by simpa using q)
theorem z_isNb (q : Q (.bl false) H) : zIsN (.ref a) .non H Q := z_isN (by simpa using q)
theorem z_notNI {i : Int} (q : Q (.bl true) H) : zNotN (.int i) .non H Q := z_notN (by simpa using q)
theorem z_notNN (q : Q (.bl false) H) : zNotN .non .non H Q := z_notN (by simpa using q)
theorem z_notNb (q : Q (.bl true) H) : zNotN (.ref a) .non H Q := z_notN (by simpa using q)
/-- o[i] = v -/
theorem z_gsub {to ti : TE} {t : TSet} {v : V} {D : L2.St → Hp → Prop} (q : to σ H fun o H1 => ti σ H1 fun i H2 => t o i v H2 fun H3 => D σ H3) : gSub to ti t v σ H D := q
/-- all stands but what lies at p -/
def But (p : Addr) (H H' : Hp) : Prop := ∀ a o, a ≠ p → H a = some o → H' a = some o
theorem But.at (e : But p H H') (ne : a ≠ p) (h : H a = some o) : H' a = some o := e a o ne h
theorem But.of (e : Same H H') : But p H H' := fun a o _ h => e a o h
theorem But.trans (e : But p H H1) (f : But p H1 H') : But p H H' := fun a o ne h => f a o ne (e a o ne h)
theorem But.set : But p H (upd H p o) := fun a _ ne h => by rw [upd_ne ne]; exact h
/-- a list of numbers -/
def IsPool (H : Hp) (p : Addr) : Prop := ∃ ns : List Int, H p = some (.lst (ns.map V.int))
theorem IsPool.mono (e : Same H H') (h : IsPool H p) : IsPool H' p := h.elim fun ns q => ⟨ns, e _ _ q⟩
end
end Z
namespace Z
open PySem PySem.Spec PyProof.Rows L2
theorem z_tup1L {K : Frag} {H : Hp} {Q : VK} {a : Addr} {xs : List V} (h : H a = some (.lst xs)) (k : ∀ p H', H p = none → Same H H' → H' p = some (.tup xs) → Q (.ref p) H') : rTup1 K [.ref a] H Q :=
  ⟨a, xs, rfl, .inl ⟨SqL.of h, fun p hp => k p _ hp (Same.new hp) upd_same⟩⟩
end Z
namespace Z
open PySem PySem.Spec PyProof.Rows L2
section
variable {K : Frag} {σ : L2.St} {H : Hp} {Q : VK} {p C dx : Addr} {fs : List (Str × V)} {i : Nat} {f : Str} {v : V} {D : L2.St → Hp → Prop}
def zSfl (K : Frag) (i : Nat) (f : Str) (E : Ends) (σ : L2.St) (y : V) (H1 : Hp) : Prop := tVar i σ H1 fun x H2 => ∃ a C dx fs, x = .ref a ∧ H2 a = some (.ins C dx fs) ∧ Cls K C ∧ NoAttr K C f ∧ fs.length < 1000 ∧ E.nx σ (upd H2 a (.ins C dx (putF f y fs)))
theorem z_sfl {tv : TE} {E : Ends} (q : tv σ H fun y H1 => zSfl K i f E σ y H1) : sFld K (tVar i) tv f E σ H := q
theorem z_sflp {E : Ends} (c : Cls K C) (n : NoAttr K C f) (hs : σ[i]? = some (some (.ref p))) (h : H p = some (.ins C dx fs)) (hl : fs.length < 1000) (q : E.nx σ (upd H p (.ins C dx (putF f v fs)))) : zSfl K i f E σ v H := ⟨_, hs, p, C, dx, fs, rfl, h, c, n, hl, q⟩
theorem z_fldG (c : Cls K C) (n : NoAttr K C f) (hs : σ[i]? = some (some (.ref p))) (h : H p = some (.ins C dx fs)) (l : fs.lookup f = some v) (q : Q v H) : tFld K (tVar i) f σ H Q := ⟨_, hs, p, C, dx, fs, v, rfl, h, c, n, l, q⟩
theorem pfB {g : Str} {u : V} {r : List (Str × V)} (h : ¬ g = f) : putF f v ((g, u) :: r) = (g, u) :: putF f v r := by
  show (if g = f then _ else _) = _
  rw [if_neg h]
theorem pfN : putF f v [] = [(f, v)] := rfl
/-- a store at a new object keeps all that was there before it -/
theorem Same.put {H0 H1 : Hp} {o : HO} (s : Same H0 H1) (h : H0 p = none) : Same H0 (upd H1 p o) := fun b u hb => by
  rw [upd_ne (ne_of_none hb h)]
  exact s b u hb
end
end Z
namespace Z
open PySem PySem.Spec PyProof.Rows L2
section
variable {K : Frag} {H H' : Hp} {Q : VK} {p a : Addr} {xs : List V}
theorem IsPool.of {ns : List Int} (h : H p = some (.lst (ns.map V.int))) : IsPool H p := ⟨ns, h⟩
/-- min of a list: is it zero -/
theorem z_ixC {ns : List Int} {k : Int} (h : H a = some (.lst (ns.map V.int))) (h0 : 0 ≤ k) (h1 : k < ns.length) (q : Q (.int (ns.getD k.toNat 0)) H) : rIx K (.ref a) (.int k) H Q :=
  z_ixL (SqL.of h) (at_int h0 (by rw [List.getD_eq_getElem?_getD, List.getElem?_eq_getElem (by omega)]; rfl)) q
end
end Z
namespace Z
open PySem PySem.Spec PyProof.Rows L2
theorem Same.none {H H' : Hp} {a : Addr} (s : Same H H') (h : H' a = Option.none) : H a = Option.none := by
  cases e : H a with
  | none => rfl
  | some o =>
    rw [s _ _ e] at h
    cases h
end Z
set_option maxHeartbeats 4000000
namespace Z
open PySem PySem.Spec PyProof.Rows L2
section
variable {K : Frag} {σ : L2.St} {H : Hp} {Q : VK} {t : TA} {i : Nat} {l : Addr} {xs : List V} {y : V}
/-- l.append(e) -/
theorem z_app (hs : σ[i]? = some (some (.ref l))) (h : H l = some (.lst xs)) (q : t σ H fun vs H1 => rAppend (.ref l) vs H1 Q) : tBM K "list" rAppend (tVar i) t σ H Q := ⟨_, hs, .inl ⟨rfl, _, SqL.of h⟩, q⟩
theorem z_ap (h : H l = some (.lst xs)) (hn : xs.length < 16777216) (q : Q .non (upd H l (.lst (xs ++ [y])))) : rAppend (.ref l) [y] H Q := ⟨l, xs, y, rfl, rfl, h, by rw [sizeLine_eq]; exact hn, q⟩
end
end Z
set_option maxHeartbeats 4000000
namespace Z
open PySem PySem.Spec PyProof.Rows L2
section
variable {X : Cx} {K : Frag}
/-- the numbers' sizes that lcm takes -/
def rLcm : List V → Hp → VK → Prop := fun vs H Q => ∃ a b : Int, vs = [.int a, .int b] ∧ a.natAbs < 2 ^ 6000 ∧ b.natAbs < 2 ^ 6000 ∧ Q (.int ((Nat.lcm a.natAbs b.natAbs : Nat) : Int)) H
theorem cr_lcm : CallR X (.builtin "math.lcm") rLcm := by
  intro pins s σ H vs us Q I r h
  obtain ⟨a, b, rfl, ha, hb, q⟩ := h
  obtain ⟨t, u, rfl⟩ := Vals.int2 r
  have h1 : (max 1 a.natAbs).log2 ≤ 5999 := PySem.W.mg_log (Nat.max_lt.mpr ⟨Nat.one_lt_two_pow (by decide), ha⟩)
  have h2 : (max a.natAbs b.natAbs).log2 ≤ 5999 := PySem.W.mg_log (Nat.max_lt.mpr ⟨ha, hb⟩)
  have e : Nat.lcm 1 a.natAbs = a.natAbs := Nat.lcm_one_left _
  have g := PySem.W.mg_run_lcm a t b u (by omega) (by omega) (by
    rw [e, Int.natAbs_natCast]
    have l1 : Nat.lcm a.natAbs b.natAbs ≤ a.natAbs * b.natAbs := Nat.div_le_self _ _
    have l2 : a.natAbs * b.natAbs < 2 ^ 12000 := by
      have : (2 : Nat) ^ 12000 = 2 ^ 6000 * 2 ^ 6000 := by rw [← Nat.pow_add]
      rw [this]
      exact Nat.mul_lt_mul'' ha hb
    have := PySem.W.mg_log (n := Nat.lcm a.natAbs b.natAbs) (k := 11999) (Nat.lt_of_le_of_lt l1 l2)
    unfold bitsLine
    omega)
  rw [e] at g
  exact call_function_meets PySem.W.MGF.kind_lcm PySem.W.MGF.plain_lcm PySem.W.MGF.entry_lcm (PySem.W.MGF.args_lcm _ _) g.meets ⟨.int _, H, I.tok _, ⟨_, rfl⟩, q⟩
end
end Z
set_option maxHeartbeats 4000000
namespace Z
open PySem PySem.Spec PyProof.Rows L2
/-- a list (false) or a tuple (true) -/
def SqK (K : Frag) (k : Bool) (H : Hp) (a : Addr) (xs : List V) : Prop := match k with
  | true => SqT K H a xs
  | false => SqL K H a xs
theorem SqK.T {K : Frag} {H : Hp} {a : Addr} {xs : List V} (h : H a = some (.tup xs)) : SqK K true H a xs := SqT.of h
def ItK (k : Bool) (h : Heap) (it a : Addr) (i : Nat) : Prop := match k with
  | true => h.IsTupleIter it a i
  | false => h.IsListIter it a i
def HasK (k : Bool) (h : Heap) (a : Addr) (its : Array Value) : Prop := match k with
  | true => h.IsTuple a its
  | false => h.IsList a its
def obK (k : Bool) (a : Addr) : Obj := match k with
  | true => { cls := .type "tuple_iterator", data := .fields #[.ref a, .int 0 0] }
  | false => { cls := .type "list_iterator", data := .fields #[.ref a, .int 0 0] }
theorem begK (k : Bool) (a : Addr) (its : Array Value) : Begins (.ref a) (obK k a) fun h => HasK k h a its := by
  cases k
  · exact begins_list a its
  · exact begins_tuple a its
theorem itK0 {k : Bool} {h : Heap} {it a : Addr} (e : h.get? it = some (obK k a)) : ItK k h it a 0 := by
  cases k
  · exact ⟨_, e, rfl, rfl⟩
  · exact ⟨_, e, rfl, rfl⟩
theorem ItK.lt {k : Bool} {h : Heap} {it a : Addr} {i : Nat} (e : ItK k h it a i) : it < h.objs.size := by
  cases k
  · obtain ⟨o, q, _⟩ := e
    exact Heap.lt_size q
  · obtain ⟨o, q, _⟩ := e
    exact Heap.lt_size q
theorem ItK.obj {k : Bool} {h : Heap} {it a : Addr} {i : Nat} (e : ItK k h it a i) : ∃ o, h.get? it = some o ∧ ∀ v, o.data ≠ .cell v := by
  cases k
  · obtain ⟨o, q, _, d⟩ := e
    exact ⟨o, q, fun v z => by rw [d] at z; cases z⟩
  · obtain ⟨o, q, _, d⟩ := e
    exact ⟨o, q, fun v z => by rw [d] at z; cases z⟩
theorem ItK.keep {k : Bool} {h h' : Heap} {it a : Addr} {i : Nat} (e : ItK k h it a i) (kp : ∀ o, h.get? it = some o → h'.get? it = some o) : ItK k h' it a i := by
  cases k
  · exact e.at kp
  · exact e.at kp
theorem drwK {P : Program} {w : World} {A : Around} (k : Bool) (hh : A.handled = none) (it a : Addr) (hne : a ≠ it) (its : Array Value) :
    Draws P w A it [it, a] its.size (fun i v => its[i]? = some v) (fun i h => ItK k h it a i ∧ HasK k h a its) := by
  cases k
  · exact Draws.list hh it a hne its
  · exact Draws.tuple hh it a hne its
section
variable {X : Cx} {pins : List (Addr × Obj)} {σ : L2.St} {H : Hp} {s : Shared} {a : Addr} {xs : List V}
theorem inv_seqK {k : Bool} (I : Inv X pins σ H s) (h : SqK X.K k H a xs) : ∃ its : List Value, Vals xs its ∧ HasK k s.heap a its.toArray ∧ a < s.heap.objs.size := by
  cases k
  · obtain ⟨its, r, p, _⟩ := I.list h
    exact ⟨its, r, p.isList, p.lt⟩
  · obtain ⟨its, r, p, _⟩ := I.tuple h
    obtain ⟨o, ho, _⟩ := id p
    exact ⟨its, r, p, Heap.lt_size ho⟩
/-- one turn of an iterator that gives tuples -/
theorem turn_core {z : Addr} {fpW wr fp : List Addr} {n : Nat} {Pt : Nat → Array Value → Prop} {Sg : Nat → Heap → Prop} {Mid : Nat → Addr → Heap → Prop} {VS : List V → Prop} {i : Nat} {E : Value → Shared → Prop} {elts : List Expr} {kk : Nat} {tpos : Pos}
    (W : WalksT X.prog X.w X.A z fpW wr n Pt Sg Mid) (I : Inv X pins σ H s) (hf : ∀ b ∈ fp, FpOk X pins H b) (hlt : ∀ b ∈ fp, b < s.heap.objs.size) (hw : ∀ b ∈ wr, b ∈ fp) (hi : i < n) (st : Sg i s.heap)
    (hP : ∀ vals, Pt i vals → ∃ vs : List V, Vals vs vals.toList ∧ VS vs ∧ vs.length ≤ sizeLine) :
    wpAny (model X.prog X.w) X.A (pyNext (.ref z)) (fun r s1 => ∃ u, r = some u ∧
      wpAny (model X.prog X.w) X.A (letOwnedTupleGo (.Tuple elts kk tpos) (.ref z) u) (fun _ s2 => ∃ x H', Inv X pins σ H' s2 ∧ RelV x u ∧ (∃ T vs, x = .ref T ∧ H T = none ∧ H' = upd H T (.tup vs) ∧ VS vs) ∧ Sg (i + 1) s2.heap ∧ ∀ b ∈ fp, H' b = none) E s1) E s := by
  refine W.item i s _ _ hi st fun T vals h' tk p hT it mid kp => ⟨_, rfl, W.go elts kk tpos i T _ _ _ mid fun h'' st' kp' => ?_⟩
  obtain ⟨vs, rv, v, hz⟩ := hP vals p
  have kept : ∀ b o, b ∉ wr → s.heap.get? b = some o → h''.get? b = some o := fun b o nb e => kp' b o nb (kp b o nb e)
  have nT : T ∉ wr := W.apart i T h' mid
  obtain ⟨ot, e1, e2, m, e3⟩ := it
  have hf' : ∀ b ∈ wr, FpOk X pins H b := fun b hb => hf b (hw b hb)
  have new : ObjOk X.prog X.w (upd H T (.tup vs)) h'' T (.tup vs) := ⟨hz, vals.toList, rv, ⟨ot, kp' T ot nT e1, e2, m, by simpa using e3⟩⟩
  refine ⟨.ref T, _, I.turnedNew (ch := wr) kept hf' hT new, rfl, ⟨T, vs, rfl, I.hok.fresh hT, rfl, v⟩, st', fun b hb => ?_⟩
  have ne : b ≠ T := Nat.ne_of_lt (Nat.lt_of_lt_of_le (hlt b hb) hT)
  rw [upd_ne ne]
  exact (hf b hb).1
theorem end_core {z : Addr} {fpW wr fp : List Addr} {n : Nat} {Pt : Nat → Array Value → Prop} {Sg : Nat → Heap → Prop} {Mid : Nat → Addr → Heap → Prop} {E : Value → Shared → Prop}
    (W : WalksT X.prog X.w X.A z fpW wr n Pt Sg Mid) (I : Inv X pins σ H s) (hf : ∀ b ∈ fp, FpOk X pins H b) (hw : ∀ b ∈ wr, b ∈ fp) (st : Sg n s.heap) :
    wpAny (model X.prog X.w) X.A (pyNext (.ref z)) (fun r s1 => r = none ∧ Inv X pins σ H s1) E s :=
  W.done s _ _ st fun h' tk kp => ⟨rfl, I.turnedL (ch := wr) (fun b o hb e => kp b o hb e) fun b hb => hf b (hw b hb)⟩
end
def ItZ (K : Frag) (k1 k2 : Bool) (a b : Addr) (xs ys : List V) : It :=
  ⟨fun i H => SqK K k1 H a xs ∧ SqK K k2 H b ys ∧ i < min xs.length ys.length,
    fun i H v H' => ∃ T x y, v = .ref T ∧ H T = none ∧ H' = upd H T (.tup [x, y]) ∧ xs[i]? = some x ∧ ys[i]? = some y,
    fun i H => SqK K k1 H a xs ∧ SqK K k2 H b ys ∧ i = min xs.length ys.length⟩
theorem vals_at {xs : List V} {its : List Value} (r : Vals xs its) {i : Nat} {u : Value} (h : its.toArray[i]? = some u) : ∃ x, xs[i]? = some x ∧ RelV x u := by
  have hi : i < its.length := by
    by_cases c : i < its.length
    · exact c
    · rw [Array.getElem?_eq_none (by simpa using c)] at h
      cases h
  have hl := r.length
  have hx : xs[i]? = some (xs[i]'(by omega)) := List.getElem?_eq_getElem _
  obtain ⟨u2, e2, ru⟩ := r.get hx
  have : its.toArray[i]? = some u2 := by simpa using e2
  rw [h] at this
  cases this
  exact ⟨_, hx, ru⟩
def tnZ (k1 k2 : Bool) (a b z TI TO i1 i2 : Addr) (i : Nat) (h : Heap) : Prop := IsZip h z TI TO .none ∧ IsTupOf2 h TI (.ref i1) (.ref i2) ∧ (∃ u v, IsTupOf2 h TO u v) ∧ ItK k1 h i1 a i ∧ ItK k2 h i2 b i
theorem turn_zipM {P : Program} {w : World} {K : Frag} {elts : List Expr} {kk : Nat} {tpos : Pos} {k1 k2 : Bool} {a b z TI TO i1 i2 : Addr} {xs ys : List V} (S : ZipSep2 z TI TO i1 i2 [i1, a] [i2, b]) (ha : a ≠ i1) (hb : b ≠ i2) :
    Turn P w K (.Tuple elts kk tpos) (ItZ K k1 k2 a b xs ys) [z, TI, TO, i1, i2] z (tnZ k1 k2 a b z TI TO i1 i2) where
  mem := by simp
  obj := fun i h st c hc => by
    obtain ⟨hz, hTI, ⟨x, y, hTO⟩, h1, h2⟩ := st
    have e' : c = z ∨ c = TI ∨ c = TO ∨ c = i1 ∨ c = i2 := by simpa using hc
    rcases e' with rfl | rfl | rfl | rfl | rfl
    · exact ⟨_, hz, fun v q => nomatch q⟩
    · exact ⟨_, hTI, fun v q => nomatch q⟩
    · exact ⟨_, hTO, fun v q => nomatch q⟩
    · exact h1.obj
    · exact h2.obj
  keep := fun i h h' st k => by
    obtain ⟨hz, hTI, ⟨x, y, hTO⟩, h1, h2⟩ := st
    exact ⟨k z (by simp) _ hz, k TI (by simp) _ hTI, ⟨x, y, k TO (by simp) _ hTO⟩, h1.keep (k i1 (by simp)), h2.keep (k i2 (by simp))⟩
  item := by
    intro X hP hw hK hc i pins s σ H E I hf st hg
    subst hP hw hK
    obtain ⟨qx, qy, hi⟩ := hg
    obtain ⟨its, rv, p1, la⟩ := inv_seqK I qx
    obtain ⟨its2, rv2, p2, lb⟩ := inv_seqK I qy
    obtain ⟨hz, hTI, ⟨x, y, hTO⟩, h1, h2⟩ := st
    have hh : X.A.in1.handled = none := I.ok.hd hc
    have l1 := rv.length
    have l2 := rv2.length
    have W := WalksT.zipD2 S (drwK (P := X.prog) (w := X.w) k1 hh i1 a ha its.toArray) (drwK (P := X.prog) (w := X.w) k2 hh i2 b hb its2.toArray)
    refine wpAny_mono (turn_core (elts := elts) (kk := kk) (tpos := tpos) (fp := [z, TI, TO, i1, i2]) (VS := fun vs => ∃ u v, vs = [u, v] ∧ xs[i]? = some u ∧ ys[i]? = some v) W I hf ?_ (by simp) (i := i) (by simp; omega) ⟨hz, hTI, ⟨x, y, hTO⟩, ⟨h1, p1⟩, ⟨h2, p2⟩⟩ ?_) ?_ (fun _ _ e => e)
    · intro c hcm
      have e' : c = z ∨ c = TI ∨ c = TO ∨ c = i1 ∨ c = i2 := by simpa using hcm
      rcases e' with rfl | rfl | rfl | rfl | rfl
      · exact Heap.lt_size hz
      · exact Heap.lt_size hTI
      · exact Heap.lt_size hTO
      · exact h1.lt
      · exact h2.lt
    · rintro vals ⟨u, v, hu, hv, rfl⟩
      obtain ⟨x', ex, rx⟩ := vals_at rv hu
      obtain ⟨y', ey, ry⟩ := vals_at rv2 hv
      exact ⟨[x', y'], .cons rx (.cons ry .nil), ⟨_, _, rfl, ex, ey⟩, by show 2 ≤ sizeLine; decide⟩
    · rintro r s1 ⟨u, rfl, q⟩
      refine ⟨u, rfl, wpAny_mono q (fun _ s2 z2 => ?_) (fun _ _ e => e)⟩
      obtain ⟨x2, H', I2, r2, ⟨T, vs, e1, e2, e3, u3, v3, e4, e5, e6⟩, ⟨t1, t2, t3, ⟨t4, _⟩, ⟨t5, _⟩⟩, fr⟩ := z2
      subst e4
      exact ⟨x2, H', I2, r2, ⟨T, u3, v3, e1, e2, e3, e5, e6⟩, ⟨t1, t2, t3, t4, t5⟩, fr⟩
  done := by
    intro X hP hw hK hc i pins s σ H E I hf st hg
    subst hP hw hK
    obtain ⟨qx, qy, hi⟩ := hg
    obtain ⟨its, rv, p1, la⟩ := inv_seqK I qx
    obtain ⟨its2, rv2, p2, lb⟩ := inv_seqK I qy
    obtain ⟨hz, hTI, ⟨x, y, hTO⟩, h1, h2⟩ := st
    have hh : X.A.in1.handled = none := I.ok.hd hc
    have l1 := rv.length
    have l2 := rv2.length
    have W := WalksT.zipD2 S (drwK (P := X.prog) (w := X.w) k1 hh i1 a ha its.toArray) (drwK (P := X.prog) (w := X.w) k2 hh i2 b hb its2.toArray)
    have e : min its.toArray.size its2.toArray.size = i := by simp; omega
    rw [e] at W
    exact end_core (fp := [z, TI, TO, i1, i2]) W I hf (by simp) ⟨hz, hTI, ⟨x, y, hTO⟩, ⟨h1, p1⟩, ⟨h2, p2⟩⟩
  self := fun A i s Q E st h => wpAny_pyIter_zip st.1 h
def iZipM (K : Frag) (ta : TA) : TI := fun σ H R => ta σ H fun vs H1 => ∃ (k1 k2 : Bool) (a b : Addr) (xs ys : List V), vs = [.ref a, .ref b] ∧ SqK K k1 H1 a xs ∧ SqK K k2 H1 b ys ∧ R (ItZ K k1 k2 a b xs ys) H1
theorem vals2 {a b : Addr} {us : List Value} (r : Vals [V.ref a, V.ref b] us) : us = [Value.ref a, Value.ref b] := by
  cases r with
  | cons r1 r =>
    cases r with
    | cons r2 r =>
      cases r
      cases r1
      cases r2
      rfl
theorem pi_zipM {X : Cx} {e e2 : Expr} {ta : TA} {p pos tpos : Pos} {elts : List Expr} {kk : Nat} (hg : Gl X "zip") (hm : X.mg "zip" = none) (ha : PA X [e, e2] ta)
    (hs : starEach [e, e2] X.env = (false, eval e X.env) :: starEach [e2] X.env := by rfl) (hpl : (backTo pos (starEach [e2] X.env)).any (·.1) = false := by rfl) :
    PI X (.Tuple elts kk tpos) (.Call (.Name "zip" p) [e, e2] [] pos) (iZipM X.K ta) := by
  refine ⟨fun pins s σ H R I h => ?_⟩
  refine Call_ (ld_blt I hg hm PyProof.Rows.boot_zip (PyProof.Rows.callWith_type1 (thn (ha.run pos pins s σ H _ I h) fun us s1 ⟨vs, H1, I1, r1, q1⟩ => ?_) hs hpl))
  obtain ⟨k1, k2, a, b, xs, ys, ex, qx, qy, q⟩ := q1
  subst ex
  obtain rfl := vals2 r1
  obtain ⟨its, rv, p1, la⟩ := inv_seqK I1 qx
  obtain ⟨its2, rv2, p2, lb⟩ := inv_seqK I1 qy
  refine zip_begins2 (begK k1 a its.toArray) (begK k2 b its2.toArray) p1 p2 fun h' hz hTI hTO h1 h2 hsz hk => wpAny_pyIter_zip hz ?_
  have I2 : Inv X pins σ H1 { s1 with heap := h' } := I1.kept (t' := s1.toks) hk
  have S := zip_sep2 (N := s1.heap.objs.size) (fp1 := [a]) (fp2 := [b]) (by simpa using la) (by simpa using lb)
  refine ⟨s1.heap.objs.size + 4, [s1.heap.objs.size + 4, s1.heap.objs.size + 2, s1.heap.objs.size + 3, s1.heap.objs.size, s1.heap.objs.size + 1], _, _, H1, rfl, I2,
    turn_zipM S (Nat.ne_of_lt la) (Nat.ne_of_lt (Nat.lt_succ_of_lt lb)), ⟨hz, hTI, ⟨_, _, hTO⟩, itK0 h1, itK0 h2⟩, fun c hcm => ?_, q⟩
  have hle : s1.heap.objs.size ≤ c := by
    simp only [List.mem_cons, List.not_mem_nil, or_false] at hcm
    rcases hcm with rfl | rfl | rfl | rfl | rfl
    · exact Nat.le_add_right _ _
    · exact Nat.le_add_right _ _
    · exact Nat.le_add_right _ _
    · exact Nat.le_refl _
    · exact Nat.le_add_right _ _
  exact I1.fpOk hle (I1.hok.fresh hle)
theorem walk_zipM {K : Frag} {k1 k2 : Bool} {a b : Addr} {xs ys : List V} {n : Nat} (hn : n = min xs.length ys.length) : Walk (ItZ K k1 k2 a b xs ys) n (fun H => SqK K k1 H a xs ∧ SqK K k2 H b ys) (YPair (fun i => xs[i]?) (fun i => ys[i]?)) := by
  subst hn
  exact ⟨fun i _ hi q => ⟨q.1, q.2, hi⟩, fun _ q => ⟨q.1, q.2, rfl⟩, fun i H v H' _ q y => by
    obtain ⟨T, x, y, h1, h2, h3, h4, h5⟩ := y
    exact ⟨T, x, y, h1, h2, h3, h4, h5⟩⟩
def ItE (K : Frag) (k : Bool) (a : Addr) (xs : List V) : It :=
  ⟨fun i H => SqK K k H a xs ∧ i < xs.length, fun i H v H' => ∃ T x, v = .ref T ∧ H T = none ∧ H' = upd H T (.tup [.int (i : Nat), x]) ∧ xs[i]? = some x, fun i H => SqK K k H a xs ∧ i = xs.length⟩
def iEnumM (K : Frag) (ta : TA) : TI := fun σ H R => ta σ H fun vs H1 => ∃ (k : Bool) (a : Addr) (xs : List V), vs = [.ref a] ∧ SqK K k H1 a xs ∧ R (ItE K k a xs) H1
end Z
set_option maxHeartbeats 4000000
namespace Z
open PySem PySem.Spec PyProof.Rows L2
/-- all but lists stands -/
def SameN (H H' : Hp) : Prop := ∀ a o, H a = some o → (∀ xs, o ≠ .lst xs) → H' a = some o
theorem SameN.of {H H' : Hp} (s : Same H H') : SameN H H' := fun a o h _ => s a o h
theorem SameN.trans {H H1 H2 : Hp} (s : SameN H H1) (t : SameN H1 H2) : SameN H H2 := fun a o h n => t a o (s a o h n) n
theorem SameN.put {H : Hp} {l : Addr} {xs ys : List V} (h : H l = some (.lst xs)) : SameN H (upd H l (.lst ys)) := fun a o e n => by
  rw [upd_ne]
  · exact e
  · intro q
    rw [q, h] at e
    exact n xs (Option.some.inj e).symm
/-- a list of n items, each told by It -/
def Ls (H : Hp) (l : Addr) (n : Nat) (It : Hp → V → Nat → Prop) : Prop := ∃ xs, H l = some (.lst xs) ∧ xs.length = n ∧ ∀ k x, xs[k]? = some x → It H x k
def Mono (It : Hp → V → Nat → Prop) : Prop := ∀ H H' x k, SameN H H' → It H x k → It H' x k
theorem Ls.mono {H H' : Hp} {l : Addr} {n : Nat} {It : Hp → V → Nat → Prop} (m : Mono It) (s : Same H H') (h : Ls H l n It) : Ls H' l n It := by
  obtain ⟨xs, h1, h2, h3⟩ := h
  exact ⟨xs, s _ _ h1, h2, fun k x e => m _ _ _ _ (SameN.of s) (h3 k x e)⟩
theorem Ls.imp {H : Hp} {l : Addr} {n : Nat} {It Jt : Hp → V → Nat → Prop} (h : Ls H l n It) (i : ∀ x k, k < n → It H x k → Jt H x k) : Ls H l n Jt := by
  obtain ⟨xs, h1, h2, h3⟩ := h
  exact ⟨xs, h1, h2, fun k x e => i x k (by
    by_cases c : k < xs.length
    · omega
    · rw [List.getElem?_eq_none (by omega)] at e
      cases e) (h3 k x e)⟩
/-- one more item behind -/
theorem Ls.snoc {H : Hp} {l : Addr} {xs : List V} {y : V} {n : Nat} {It : Hp → V → Nat → Prop} (m : Mono It) (h1 : H l = some (.lst xs)) (h2 : xs.length = n) (h3 : ∀ k x, xs[k]? = some x → It H x k) (hy : It H y n) : Ls (upd H l (.lst (xs ++ [y]))) l (n + 1) It := by
  refine ⟨_, upd_same, by simp [h2], fun k x e => m _ _ _ _ (SameN.put h1) ?_⟩
  rw [List.getElem?_append] at e
  split at e
  · exact h3 k x e
  · rename_i c
    have : k = n := by
      by_cases q : k - xs.length = 0
      · omega
      · rw [List.getElem?_eq_none (by simp; omega)] at e
        cases e
    subst this
    rw [h2, Nat.sub_self] at e
    cases e
    exact hy
section
variable {K : Frag} {σ : L2.St} {H1 : Hp} {Q : VK} {te : TE} {i j : Nat}
/-- a comprehension whose turns give items told by It -/
theorem z_lcP {J : It} {n : Nat} {G : Hp → Prop} {Y : Nat → Hp → V → Hp → Prop} {g : TG} {vs : List Nat} (w : Walk J n G Y) (It : Hp → V → Nat → Prop) (m : Mono It) (hn : n ≤ 16777216) (hG : ∀ H', Same H1 H' → G H')
    (hs : ∀ k x H H' (N : VK), k < n → Same H1 H → Y k H x H' → (∀ y H4, Same H H4 → It H4 y k → N y H4) → g x (wipe σ vs) H' fun σ2 H2 => wipe σ2 vs = wipe σ vs ∧ te σ2 H2 N)
    (k : ∀ D H', H1 D = none → Same H1 H' → Ls H' D n It → Q (.ref D) H') : zLc J g tYes te vs σ H1 Q := fun D hD => by
  refine lc_it w (fun i H => Same H1 H ∧ Ls H D i It) ⟨Same.new hD, [], upd_same, rfl, fun k x e => by simp at e⟩ (fun i H hi p => hG H p.1) (fun i x H H' hi p y => ?_) (fun H p => k D H hD p.1 p.2)
  refine hs i x H H' _ hi p.1 y (fun y H4 s4 hy => ?_)
  obtain ⟨xs, h1, h2, h3⟩ := p.2.mono m s4
  refine ⟨_, h1, ?_, ?_, Ls.snoc m h1 h2 h3 hy⟩
  · rw [sizeLine_eq]
    omega
  · intro b o hb
    rw [upd_ne (ne_of_none hb hD)]
    exact s4 _ _ (p.1 _ _ hb)
/-- over any list -/
theorem z_lcVP {a : Addr} {xs : List V} (It : Hp → V → Nat → Prop) (m : Mono It) {vs : List Nat} (h : H1 a = some (.lst xs)) (hn : xs.length ≤ 16777216)
    (hs : ∀ k x H (N : VK), xs[k]? = some x → Same H1 H → (∀ y H4, Same H H4 → It H4 y k → N y H4) → wipe ((wipe σ vs).set i (some x)) vs = wipe σ vs ∧ te ((wipe σ vs).set i (some x)) H N)
    (k : ∀ D H', H1 D = none → Same H1 H' → Ls H' D xs.length It → Q (.ref D) H') : zLcL K (gName i) tYes te vs σ (.ref a) H1 Q := by
  refine ⟨a, rfl, ⟨_, SqL.of h⟩, ?_⟩
  refine z_lcP (walk_list (K := K) (a := a) (xs := xs)) It m hn (fun H' s => SqL.of (s _ _ h)) (fun k x H H' N hk s y c => ?_) k
  obtain ⟨rfl, hx⟩ := y
  exact hs k x H' N hx s c
/-- over any list, the values told -/
theorem z_lcVF {a : Addr} {xs : List V} (f : Nat → V) {vs : List Nat} (h : H1 a = some (.lst xs)) (hn : xs.length ≤ 16777216)
    (hs : ∀ k x H (N : VK), xs[k]? = some x → Same H1 H → (∀ H4, Same H H4 → N (f k) H4) → wipe ((wipe σ vs).set i (some x)) vs = wipe σ vs ∧ te ((wipe σ vs).set i (some x)) H N)
    (k : ∀ D H', H1 D = none → Same H1 H' → H' D = some (.lst ((List.range xs.length).map f)) → Q (.ref D) H') : zLcL K (gName i) tYes te vs σ (.ref a) H1 Q := by
  refine ⟨a, rfl, ⟨_, SqL.of h⟩, ?_⟩
  refine z_lcF (walk_list (K := K) (a := a) (xs := xs)) f hn (fun H' s => SqL.of (s _ _ h)) (fun k x H H' N hk s y c => ?_) k
  obtain ⟨rfl, hx⟩ := y
  exact hs k x H' N hx s c
/-- over enumerate -/
def zLcE (K : Frag) (g : TG) (tt : TT) (te : TE) (vs : List Nat) (σ : L2.St) (xs : List V) (H1 : Hp) (Q : VK) : Prop := ∃ (k : Bool) (a : Addr) (ys : List V), xs = [.ref a] ∧ SqK K k H1 a ys ∧ zLc (ItE K k a ys) g tt te vs σ H1 Q
theorem z_lcES {g : TG} {tt : TT} {t : TA} {vs : List Nat} (q : t σ H1 fun xs H2 => zLcE K g tt te vs σ xs H2 Q) : tLc (iEnumM K t) g tt te vs σ H1 Q := q
/-- over zip, lists and tuples -/
def zLcM (K : Frag) (g : TG) (tt : TT) (te : TE) (vs : List Nat) (σ : L2.St) (xs : List V) (H1 : Hp) (Q : VK) : Prop := ∃ (k1 k2 : Bool) (a b : Addr) (us ys : List V), xs = [.ref a, .ref b] ∧ SqK K k1 H1 a us ∧ SqK K k2 H1 b ys ∧ zLc (ItZ K k1 k2 a b us ys) g tt te vs σ H1 Q
theorem z_lcMS {g : TG} {tt : TT} {t : TA} {vs : List Nat} (q : t σ H1 fun xs H2 => zLcM K g tt te vs σ xs H2 Q) : tLc (iZipM K t) g tt te vs σ H1 Q := q
theorem z_lcM {a b : Addr} {k1 k2 : Bool} {us ys : List V} (f : Nat → V) {vs : List Nat} (h : ∀ H', Same H1 H' → SqK K k1 H' a us) (h2 : ∀ H', Same H1 H' → SqK K k2 H' b ys) {n : Nat} (hn : n = min us.length ys.length) (hm : n ≤ 16777216)
    (hs : ∀ (k : Nat) x y H (N : VK), us[k]? = some x → ys[k]? = some y → Same H1 H → (∀ H4, Same H H4 → N (f k) H4) → wipe (((wipe σ vs).set i (some x)).set j (some y)) vs = wipe σ vs ∧ te (((wipe σ vs).set i (some x)).set j (some y)) H N)
    (k : ∀ D H', H1 D = none → Same H1 H' → H' D = some (.lst ((List.range n).map f)) → Q (.ref D) H') : zLcM K (gTup K 2 (gCons (gName i) (gCons (gName j) gNil))) tYes te vs σ [.ref a, .ref b] H1 Q := by
  refine ⟨_, _, a, b, _, _, rfl, h _ (fun _ _ e => e), h2 _ (fun _ _ e => e), ?_⟩
  refine z_lcF (walk_zipM hn) f hm (fun H' s => ⟨h _ s, h2 _ s⟩) (fun k x H H' N hk s y c => ?_) k
  obtain ⟨T, u, v, rfl, hT, rfl, hu, hv⟩ := y
  obtain ⟨z1, z2⟩ := hs k u v (upd H T (.tup [u, v])) N hu hv (s.trans (Same.new hT)) (fun H4 s4 => c H4 ((Same.new hT).trans s4))
  exact z_gtup upd_same rfl ⟨_, _, rfl, _, _, rfl, rfl, z1, z2⟩
def zFoE (K : Frag) (g : TG) (tb : TS) (D : Ends) (σ : L2.St) (vs : List V) (H1 : Hp) : Prop := ∃ (k : Bool) (a : Addr) (xs : List V), vs = [.ref a] ∧ SqK K k H1 a xs ∧ ∃ W : Nat → Nat → L2.St → Hp → Prop, (∃ m, W 0 m σ H1) ∧ ∀ i m σ H, W i m σ H →
    ((ItE K k a xs).stop i H ∧ D.nx σ H) ∨ ((ItE K k a xs).go i H ∧ ∃ N : L2.St → Hp → Prop, (∀ σ' H', N σ' H' → ∃ m', m' < m ∧ W (i + 1) m' σ' H') ∧ ∀ x H', (ItE K k a xs).yld i H x H' → g x σ H' fun σ2 H2 => tb { D with nx := N, ct := N, bk := D.nx } σ2 H2)
theorem z_foES {g : TG} {tb : TS} {D : Ends} {t : TA} (q : t σ H1 fun vs H2 => zFoE K g tb D σ vs H2) : tFor (iEnumM K t) g tb D σ H1 := q
def zFo3 (g : TG) (tb : TS) (D : Ends) (σ : L2.St) (vs : List V) (H1 : Hp) : Prop := ∃ (a b c : Int) (n : Nat), vs = [.int a, .int b, .int c] ∧ RgC a b c n ∧ ∃ W : Nat → Nat → L2.St → Hp → Prop, (∃ m, W 0 m σ H1) ∧ ∀ k m σ H, W k m σ H →
    ((Itc a c n).stop k H ∧ D.nx σ H) ∨ ((Itc a c n).go k H ∧ ∃ N : L2.St → Hp → Prop, (∀ σ' H', N σ' H' → ∃ m', m' < m ∧ W (k + 1) m' σ' H') ∧ ∀ x H', (Itc a c n).yld k H x H' → g x σ H' fun σ2 H2 => tb { D with nx := N, ct := N, bk := D.nx } σ2 H2)
theorem z_fo3S {g : TG} {tb : TS} {D : Ends} {t : TA} (q : t σ H1 fun vs H2 => zFo3 g tb D σ vs H2) : tFor (iRng3 t) g tb D σ H1 := q
end
section
variable {K : Frag} {H : Hp} {Q : VK}
theorem Bits.mul {a b : Nat} {i j : Int} (ha : Bits a i) (hb : Bits b j) : Bits (a + b) (i * j) := by
  unfold Bits at *
  rw [Int.natAbs_mul, Nat.pow_add]
  exact Nat.mul_lt_mul'' ha hb
theorem Bits.add {a : Nat} {i j : Int} (ha : Bits a i) (hb : Bits a j) : Bits (a + 1) (i + j) := by
  unfold Bits at *
  rw [Nat.pow_succ]
  omega
theorem Bits.neg {a : Nat} {i : Int} (ha : Bits a i) : Bits a (-i) := by
  unfold Bits at *
  omega
theorem Bits.up {a b : Nat} {i : Int} (h : Bits a i) (hb : a ≤ b) : Bits b i := bits_up h hb
theorem Bits.zero {a : Nat} : Bits a 0 := Nat.two_pow_pos a
theorem Bits.le {a : Nat} {i j : Int} (h : Bits a j) (hi : i.natAbs ≤ j.natAbs) : Bits a i := Nat.lt_of_le_of_lt hi h
theorem Bits.small {i : Int} {n : Nat} (h1 : -(1 <<< n : Nat) < i) (h2 : i < (1 <<< n : Nat)) : Bits n i := by
  unfold Bits
  rw [Nat.one_shiftLeft] at h1 h2
  omega
theorem Bits.gcd {a : Nat} {i j : Int} (h : Bits a j) (h0 : j ≠ 0) : Bits a ((Int.gcd i j : Nat) : Int) := by
  refine h.le ?_
  rw [Int.natAbs_natCast]
  exact Nat.le_of_dvd (by omega) (Int.gcd_dvd_natAbs_right ..)
theorem Bits.mod {a : Nat} {i j : Int} (h : Bits a j) (h0 : 0 < j) : Bits a (i % j) := by
  refine h.le ?_
  have := Int.emod_nonneg i (show j ≠ 0 by omega)
  have := Int.emod_lt_of_pos i h0
  omega
theorem z_repB {i j : Int} {a b : Nat} (ha : Bits a i) (hb : Bits b j) (h0 : 0 < a) (h1 : 0 < b) (h : a + b ≤ 1000000) (q : Q (.int (i * j)) H) : zRep (.int i) (.int j) H Q := .inl (z_mulB ha hb h0 h1 h q)
end
end Z
set_option maxHeartbeats 4000000
namespace Z
open PySem PySem.Spec PyProof.Rows L2
def seenK2 (fb : List Chk) (fn : List He5.DefA) (K : Frag) : SeenZ := ((fb.all fun c => c K) && fn.all fun d => d.ok K, fn.map fun d => He5.fnA K (d.at_ K))
def dueK2 (fn : List He5.DefA) : SeenZ := (true, fn.map He5.DefA.val)
def Says2 (fb : List Chk) (fn : List He5.DefA) (K : Frag) : Prop := seenK2 fb fn K = dueK2 fn
section
variable {fb : List Chk} {fn : List He5.DefA} {K : Frag}
theorem Says2.fact (c : Says2 fb fn K) (i : Nat) {f : Chk} (h : fb[i]? = some f := by rfl) : f K = true := by
  have q := (He.ba (congrArg (fun z : SeenZ => z.1) c)).1
  exact List.all_eq_true.mp q f (List.mem_of_getElem? h)
theorem Says2.def_ (c : Says2 fb fn K) (i : Nat) {d : He5.DefA} (h : fn[i]? = some d := by rfl) : ∃ fd, FunD K d.name d.qual d.params d.body d.scope (d.dvs K) (d.kws K) (d.at_ K) fd := by
  have q := (He.ba (congrArg (fun z : SeenZ => z.1) c)).2
  have e : fn.map (fun d => He5.fnA K (d.at_ K)) = fn.map He5.DefA.val := congrArg (fun z : SeenZ => z.2) c
  have e2 := congrArg (fun l => l[i]?) e
  simp only [List.getElem?_map, h, Option.map_some] at e2
  exact He5.DefA.funD (Option.some.inj e2) (List.all_eq_true.mp q d (List.mem_of_getElem? h))
end
structure LwB (fb : List Chk) (fn : List He5.DefA) (K : Frag) (mg : Str → Option Value) : Prop where
  at_ : ∃ h : Heap, K.In h ∧ h.Ns mainGlobals mg
  c : Says2 fb fn K
/-- a class whose attributes are read by their names; a staticmethod of it -/
def cRead (x : Str) : Chk := fun K => PySem.W.readsIn K (He.ga K x) (.type "type") && He.eqO (PySem.W.specialIn K (.ref (He.ga K x)) "__getattribute__") (some (some (.builtin "type.__getattribute__")))
theorem cread_ok {K : Frag} {x : Str} (h : cRead x K = true) : ClX.CRead K (He.ga K x) (.type "type") := by
  obtain ⟨h1, h2⟩ := He.ba h
  exact ⟨h1, He.eqO_ok h2⟩
def cStat (x m : Str) : Chk := fun K => He5.wrapB K (He.ga K x) "staticmethod" "staticmethod.__get__" m
/-- C.m is a staticmethod: its record at p, its def at f -/
structure SMet (K : Frag) (C : Addr) (m : Str) (p f : Addr) : Prop where
  at_ : PySem.W.findCls K (.ref C) (.type "type") m = some (.get (.builtin "staticmethod.__get__") (.ref p) .none (.ref C))
  rc : ∃ rest, PySem.W.recIn K p "staticmethod" = some (.ref f :: rest)
theorem smet_ok {K : Frag} {x m : Str} (h : cStat x m K = true) : SMet K (He.ga K x) m (He.ma K (He.ga K x) m) (He5.wf K (He.ga K x) "staticmethod" m) := by
  obtain ⟨h1, h2⟩ := He5.wrapB_ok h
  exact ⟨h1, h2⟩
structure Sta (P : Program) (w : World) (K : Frag) (mg : Str → Option Value) (base : Heap) (k : Nat) (C : Addr) (m : Str) (sp : Sp) (dvs : List V) : Prop where
  ex : ∃ (p f : Addr) (fd : FuncData) (ps : List Str) (ds : List Value), ClX.CRead K C (.type "type") ∧ SMet K C m p f ∧ FnOk P w K mg base (L2N.CX P w) k f fd ps sp ∧ PySem.W.keepIn K (.ref f) = true ∧ Binds K fd ps ds ∧ Vals dvs ds
/-- C.m(..), m a staticmethod of C -/
def tStaW (C : Addr) (sp : Sp) (dvs : List V) (W : WX) (ta : TE) (t : TA) : TE := fun σ H Q => ta σ H fun x H1 => x = .ref C ∧ t σ H1 fun vs H2 => sp (vs ++ dvs) H2 Q (fun cls d H' => W cls d σ H')
section
variable {X : Cx} {k j : Nat} {C : Addr} {sp : Sp} {dvs : List V} {W : WX} {m : Str} {pos apos : Pos} {e o : Expr} {es : List Expr} {ta : TE} {t : TA}
theorem pe_sm {pl : Sem Bool} (c : Sta X.prog X.w X.K X.mg X.base k C m sp dvs) (hr : Room j X.A) (hk : k ≤ j) (tk : L2N.Takes X W) (ho : PE X o ta) (ha : PA X (e :: es) t)
    (hst : starEach (e :: es) X.env = (false, eval e X.env) :: starEach es X.env := by rfl) (hpl : (backTo pos (starEach es X.env)).any (·.1) = false := by rfl)
    (ht : eval (.Call (.Attribute o m apos) (e :: es) [] pos) X.env = (do
      let ov ← eval o X.env; standAt apos.atName
      let (f, first) ← holding [ov] (getMethod ov m pl); callWith pos f first (backTo pos (starEach (e :: es) X.env)) (backToKw pos (keywordEach [] X.env))) := by rfl) :
    PE X (.Call (.Attribute o m apos) (e :: es) [] pos) (tStaW C sp dvs W ta t) := by
  obtain ⟨p, f, fd, ps, ds, rd, sm, F, kp, b, d⟩ := c.ex
  obtain ⟨rest, hp⟩ := sm.rc
  refine ⟨fun pi s0 sl H0 Q0 J h0 => ?_⟩
  refine PySem.W.methodCall_KW (pl := pl) (thn (ho.run pi s0 sl H0 _ J h0) fun u s1 ⟨y, H1, J1, ry, ey, q⟩ => ?_) ht
  subst ey
  obtain rfl : u = Value.ref C := ry
  refine PySem.W.method_cls J1.kIn rd.ga (PySem.W.cls_bind J1.kIn rd.rd sm.at_ (wpAny_call (PySem.W.sm_get (s := { s1 with toks := s1.toks + 1 }) J1.kIn hp (PySem.W.handed_on rfl ?_))))
  have J2 : Inv X pi sl H1 { s1 with toks := s1.toks + 1 } := J1.tok _
  refine PySem.W.callWith_K (first := []) (h₀ := X.base) J.ok.mod.kin kp (thn (ha.run pos pi _ sl H1 _ J2 q) fun us s2 ⟨xs, H2, J3, r, q2⟩ => ⟨J3.kIn, ?_⟩) hst hpl
  exact run_fnSD (E := fun σ cls d H => W cls d σ H) F (hr.mono hk) b d (passW tk sl) J3 r q2
end
section
variable {K : Frag} {σ : L2.St} {H : Hp} {Q : VK} {ta : TE} {t : TA} {sp : Sp} {dvs : List V} {W : WX} {C : Addr}
def zSta (C : Addr) (x : V) (R : Prop) : Prop := x = .ref C ∧ R
theorem z_sta (q : ta σ H fun x H1 => zSta C x (t σ H1 fun vs H2 => sp (vs ++ dvs) H2 Q (fun cls d H' => W cls d σ H'))) : tStaW C sp dvs W ta t σ H Q := q
theorem z_sta1 {R : Prop} (q : R) : zSta C (.ref C) R := ⟨rfl, q⟩
end
end Z
set_option maxHeartbeats 4000000
namespace Z
open PySem PySem.Spec PyProof.Rows L2
theorem map_three {α β γ δ : Type} {o : Option α} {f : α → β} {g : α → γ} {h : α → δ} {a : β} {b : γ} {c : δ} (h1 : o.map f = some a) (h2 : o.map g = some b) (h3 : o.map h = some c) : o.map (fun x => (f x, g x, h x)) = some (a, b, c) := by
  cases o with
  | none => cases h1
  | some x =>
    cases h1
    cases h2
    cases h3
    rfl
end Z
set_option maxHeartbeats 4000000
namespace Z
open PySem PySem.Spec PyProof.Rows L2
section
variable {K : Frag} {σ : L2.St} {H1 : Hp} {Q : VK} {te : TE} {i j : Nat}
def zLcT (K : Frag) (g : TG) (tt : TT) (te : TE) (vs : List Nat) (σ : L2.St) (x : V) (H1 : Hp) (Q : VK) : Prop := ∃ a, x = .ref a ∧ (∃ xs, SqT K H1 a xs) ∧ zLc (Itt K a) g tt te vs σ H1 Q
theorem z_lcTS {g : TG} {tt : TT} {t : TE} {vs : List Nat} (q : t σ H1 fun x H2 => zLcT K g tt te vs σ x H2 Q) : tLc (iTup K t) g tt te vs σ H1 Q := q
/-- a loop over a tuple -/
def zFoT (K : Frag) (g : TG) (tb : TS) (D : Ends) (σ : L2.St) (x : V) (H1 : Hp) : Prop := ∃ a, x = .ref a ∧ (∃ xs, SqT K H1 a xs) ∧ ∃ W : Nat → Nat → L2.St → Hp → Prop, (∃ m, W 0 m σ H1) ∧ ∀ k m σ H, W k m σ H →
    ((Itt K a).stop k H ∧ D.nx σ H) ∨ ((Itt K a).go k H ∧ ∃ N : L2.St → Hp → Prop, (∀ σ' H', N σ' H' → ∃ m', m' < m ∧ W (k + 1) m' σ' H') ∧ ∀ x H', (Itt K a).yld k H x H' → g x σ H' fun σ2 H2 => tb { D with nx := N, ct := N, bk := D.nx } σ2 H2)
theorem z_foTS {g : TG} {tb : TS} {D : Ends} {t : TE} (q : t σ H1 fun x H2 => zFoT K g tb D σ x H2) : tFor (iTup K t) g tb D σ H1 := q
theorem z_foT {g : TG} {tb : TS} {D : Ends} {a : Addr} {xs : List V} (h : H1 a = some (.tup xs)) (I : Nat → L2.St → Hp → Prop) (h0 : I 0 σ H1) (hl : ∀ k σ H, I k σ H → H a = some (.tup xs))
    (hs : ∀ k x σ H, xs[k]? = some x → I k σ H → g x σ H fun σ2 H2 => tb { D with nx := I (k + 1), ct := I (k + 1), bk := D.nx } σ2 H2) (hd : ∀ σ H, I xs.length σ H → D.nx σ H) : zFoT K g tb D σ (.ref a) H1 :=
  ⟨a, rfl, ⟨_, SqT.of h⟩, for_it (walk_tup (K := K) (a := a) (xs := xs)) I h0 (fun k σ H _ p => SqT.of (hl k σ H p)) (fun k x σ H H' _ p y => by
    obtain ⟨rfl, hx⟩ := y
    exact hs k x σ H' hx p) hd⟩
/-- an own operator of two instances -/
theorem z_own2 {r : R2} {C : Addr} {sp : Sp} {E : XK} {a b dx dy : Addr} {fs gs : List (Str × V)} {H : Hp} (h1 : H a = some (.ins C dx fs)) (h2 : H b = some (.ins C dy gs)) (q : sp [.ref a, .ref b] H (fun v H' => (∃ q, v = .ref q) ∧ Q v H') E) : rOr r (rOwn2 C sp E) (.ref a) (.ref b) H Q :=
  .inr ⟨a, b, dx, dy, fs, gs, rfl, rfl, h1, h2, q⟩
/-- lcm of two numbers -/
theorem z_lcm {H : Hp} {a b : Int} {B C : Nat} (ha : Bits B a) (hb : Bits C b) (h1 : B ≤ 6000) (h2 : C ≤ 6000) (q : Q (.int ((Nat.lcm a.natAbs b.natAbs : Nat) : Int)) H) : rLcm [.int a, .int b] H Q :=
  ⟨a, b, rfl, Nat.lt_of_lt_of_le ha (Nat.pow_le_pow_right (by decide) h1), Nat.lt_of_lt_of_le hb (Nat.pow_le_pow_right (by decide) h2), q⟩
theorem lcm_facts {a b : Int} (ha : 0 < a) (hb : 0 < b) : 0 < ((Nat.lcm a.natAbs b.natAbs : Nat) : Int) ∧ a ∣ ((Nat.lcm a.natAbs b.natAbs : Nat) : Int) ∧ b ∣ ((Nat.lcm a.natAbs b.natAbs : Nat) : Int) ∧ ∀ B C, Bits B a → Bits C b → Bits (B + C) ((Nat.lcm a.natAbs b.natAbs : Nat) : Int) := by
  have p : 0 < Nat.lcm a.natAbs b.natAbs := Nat.lcm_pos (by omega) (by omega)
  refine ⟨by omega, ?_, ?_, fun B C h1 h2 => ?_⟩
  · rw [← Int.natAbs_dvd]
    exact_mod_cast Nat.dvd_lcm_left _ _
  · rw [← Int.natAbs_dvd]
    exact_mod_cast Nat.dvd_lcm_right _ _
  · refine (h1.mul h2).le ?_
    rw [Int.natAbs_natCast, Int.natAbs_mul]
    exact Nat.div_le_self _ _
end
end Z
set_option maxHeartbeats 4000000
namespace Z
open PySem PySem.Spec PyProof.Rows L2
end Z
set_option maxHeartbeats 4000000
namespace Z
open PySem PySem.Spec PyProof.Rows L2
def tRevT (K : PySem.W.Frag) (te : TE) : TE := fun σ H Q => te σ H fun x H1 => ∃ a xs, x = .ref a ∧ SqT K H1 a xs ∧ ∀ p, H1 p = none → Q (.ref p) (upd H1 p (.tup xs.reverse))
section
variable {K : Frag} {σ : L2.St} {H : Hp} {Q : VK}
def zRevT (K : Frag) (x : V) (H : Hp) (Q : VK) : Prop := ∃ a xs, x = .ref a ∧ SqT K H a xs ∧ ∀ p, H p = none → Q (.ref p) (upd H p (.tup xs.reverse))
theorem z_revTS {te : TE} (q : te σ H fun x H1 => zRevT K x H1 Q) : tRevT K te σ H Q := q
end
end Z
set_option maxHeartbeats 4000000
namespace Z
open PySem PySem.Spec PyProof.Rows L2
/-- those that the mask does not hold, each once -/
def newB {α : Type} : List Addr → Nat → List Addr → (List Addr → Nat → α) → α
  | [], m, acc, k => k acc m
  | a :: r, m, acc, k => HandSHeadRun.frNat a fun a => match Nat.beq (Nat.mod (Nat.shiftRight m a) 2) 1 with
    | true => newB r m acc k
    | false => HandSHeadRun.frNat (Nat.lor m (Nat.shiftLeft 1 a)) fun m => newB r m (a :: acc) k
def asB (g : Addr → Option Obj) : Nat → List Addr → Nat → List Addr → List Addr
  | 0, _, _, acc => acc
  | n + 1, fr, m, acc => newB (fr.flatMap fun a => match g a with
    | some o => He.refsD o
    | none => []) m [] fun nw m => asB g n nw m (nw ++ acc)
def seenG3 (n : Nat) (fb : List Chk) (fn : List He5.DefA) (g : Addr → Option Obj) : SeenZ := seenK2 fb fn (He.frG g (asB g n [mainGlobals] (Nat.shiftLeft 1 mainGlobals) [cStatics, mainGlobals]))
def hookZ3 (n : Nat) (fb : List Chk) (fn : List He5.DefA) : PySem.W.Hook where
  α := SeenZ
  val := fun _ => dueK2 fn
  obs := fun st => seenG3 n fb fn st.heap.get?
  says := fun _ hp => ∃ K : Frag, K.In hp ∧ Says2 fb fn K
  keeps := fun _ _ _ ⟨K, hin, c⟩ kp => ⟨K, PySem.W.Frag.In.keeps hin kp, c⟩
  of := fun _ _ eq => ⟨_, He.frG_in, eq⟩
theorem seenG3_eq {n : Nat} {fb : List Chk} {fn : List He5.DefA} {g : Addr → Option Obj} {st : Shared} (h : ∀ a, g a = st.heap.get? a) : seenG3 n fb fn g = (hookZ3 n fb fn).obs st := by
  rw [show g = st.heap.get? from funext h] <;> rfl
theorem seen_both3 {α : Type} {o : Option α} {g : α → Addr → Option Obj} {n : Nat} {fb1 fb2 : List Chk} {fn1 fn2 : List He5.DefA} (h1 : o.map (fun x => seenG3 n fb1 fn1 (g x)) = some (dueK2 fn1)) (h2 : o.map (fun x => seenG3 n fb2 fn2 (g x)) = some (dueK2 fn2)) :
    o.map (fun x => seenG3 n (fb1 ++ fb2) (fn1 ++ fn2) (g x)) = some (dueK2 (fn1 ++ fn2)) := by
  cases o with
  | none => cases h1
  | some x =>
    have e1 : seenG3 n fb1 fn1 (g x) = dueK2 fn1 := Option.some.inj h1
    have e2 : seenG3 n fb2 fn2 (g x) = dueK2 fn2 := Option.some.inj h2
    show some (seenG3 n (fb1 ++ fb2) (fn1 ++ fn2) (g x)) = _
    unfold seenG3 seenK2 dueK2 at *
    have a1 := congrArg (fun z : SeenZ => z.1) e1
    have a2 := congrArg (fun z : SeenZ => z.1) e2
    have b1 := congrArg (fun z : SeenZ => z.2) e1
    have b2 := congrArg (fun z : SeenZ => z.2) e2
    dsimp only at a1 a2 b1 b2
    obtain ⟨c1, c2⟩ := He.ba a1
    obtain ⟨d1, d2⟩ := He.ba a2
    rw [List.all_append, List.all_append, List.map_append, List.map_append, c1, c2, d1, d2, b1, b2]
    rfl
end Z
set_option maxHeartbeats 4000000
namespace Z
open PySem PySem.Spec PyProof.Rows L2
section
variable {K : Frag} {σ : L2.St} {H1 : Hp} {Q : VK} {te : TE} {i j : Nat}
def Sq2 (H : Hp) (a : Addr) (xs : List V) : Prop := H a = some (.lst xs) ∨ H a = some (.tup xs)
theorem Sq2.mono {H H' : Hp} {a : Addr} {xs : List V} (s : Same H H') (h : Sq2 H a xs) : Sq2 H' a xs := h.imp (s _ _) (s _ _)
end
end Z
set_option maxHeartbeats 4000000
namespace Z
open PySem PySem.Spec PyProof.Rows L2
/-- one of two readings of an expression -/
def tOrE (ta tb : TE) : TE := fun σ H Q => ta σ H Q ∨ tb σ H Q
section
variable {K : Frag} {σ : L2.St} {H : Hp} {Q : VK} {te : TE}
theorem z_orL {ta tb : TE} (q : ta σ H Q) : tOrE ta tb σ H Q := .inl q
end
end Z
set_option maxHeartbeats 4000000
namespace Z
open PySem PySem.Spec PyProof.Rows L2
/-- a caught exception has landed, ahead of the clauses -/
structure Down (X : Cx) (pins : List (Addr × Obj)) (a : Addr) (B : Heap) (sI : Shared) (σ : L2.St) (H : Hp) (cls : Value) (d : Option Addr) (s : Shared) : Prop where
  inv : Inv X pins σ H sI
  nb : ∀ b o, sI.heap.get? b = some o → b ∉ frs X.stack → B.get? b = some o
  fly : HandSPX.FlyingZ B (X.env :: X.outer) a (L2N.Zn cls d) s.heap
  up : sI.heap.UpToSlots s.heap
  na : H a = none
  os : s.os = sI.os
  ag : AllBare s.gens
section
variable {X : Cx} {pins : List (Addr × Obj)} {a : Addr} {B : Heap} {sI s : Shared} {σ : L2.St} {H : Hp} {cls : Value} {d : Option Addr} {D : Ends} {Wout : WX}
theorem Down.obj (n : Down X pins a B sI σ H cls d s) : ∃ o vs, s.heap.get? a = some o ∧ L2N.Zn cls d o ∧ o.data = .fields vs := by
  obtain ⟨_, _, _, o, vs, _, _, _, ho, hz, hd, _⟩ := n.fly
  exact ⟨o, vs, ho, hz, hd⟩
theorem Down.apart (n : Down X pins a B sI σ H cls d s) (hf : X.env.frame = some X.env.locals) : a ≠ X.env.locals ∧ a ∉ X.fs := by
  obtain ⟨o, vs, ho, _, hd⟩ := n.obj
  have away : a ∉ frs (X.env :: X.outer) := fun m => by
    obtain ⟨_, o2, ho2, nd⟩ := n.fly.2.2.1.mem m
    obtain rfl : o = o2 := Option.some.inj (ho.symm.trans ho2)
    exact nd _ hd
  refine ⟨fun e => away ?_, fun m => away ?_⟩
  · exact List.mem_filterMap.mpr ⟨_, List.mem_cons_self, by rw [hf, e]⟩
  · obtain ⟨v, hv, ev⟩ := List.mem_filterMap.mp m
    exact List.mem_filterMap.mpr ⟨v, List.mem_cons_of_mem _ hv, ev⟩
end
end Z
set_option maxHeartbeats 4000000
namespace Z
open PySem PySem.Spec PyProof.Rows L2
end Z
set_option maxHeartbeats 4000000
namespace Z
open PySem PySem.Spec PyProof.Rows L2
end Z
set_option maxHeartbeats 4000000
set_option maxHeartbeats 4000000
namespace Z
open PySem PySem.Spec PyProof.Rows L2
open SX (S)
end Z
set_option maxHeartbeats 4000000
namespace Z
open PySem PySem.Spec PyProof.Rows L2
open PySem.W (EachIs dataLt dataLe alike alikeAll AllAlike Sortable)
/-- a pair: where it lies, its number, its numbers -/
abbrev Pq := Addr × Int × List Int
def encP (b : Pq) : PyData := .tuple [.int b.2.1, .tuple (b.2.2.map PyData.int)]
/-- the lesser of two pairs -/
def ltP (x y : Int × List Int) : Prop := x.1 < y.1 ∨ (x.1 = y.1 ∧ x.2 < y.2)
instance (x y : Int × List Int) : Decidable (ltP x y) := by unfold ltP; infer_instance
theorem alk_ints : ∀ a b : List Int, a.length = b.length → alikeAll (a.map PyData.int) (b.map PyData.int) = true
  | [], _, _ => by rw [List.map_nil, alikeAll]
  | x :: xs, [], h => by simp at h
  | x :: xs, y :: ys, h => by
    rw [List.map_cons, List.map_cons, alikeAll, alk_ints xs ys (by simpa using h), Bool.and_true, alike]
theorem alk_enc {a b : Pq} (h : a.2.2.length = b.2.2.length) : alike (encP a) (encP b) = true := by
  unfold encP
  rw [alike, alikeAll, alikeAll, alike, alike, alk_ints _ _ h, alikeAll]
  rfl
theorem eqv_ints (a b : List Int) : PyData.eqv (.tuple (a.map PyData.int)) (.tuple (b.map PyData.int)) = decide (a = b) := by
  rw [PyData.eqv]
  exact PySem.W.ked_eqvAll a b
theorem lt_enc {a b : Pq} (h : a.2.2.length = b.2.2.length) : dataLt (encP a) (encP b) = decide (ltP a.2 b.2) := by
  unfold encP
  rw [PySem.W.dataLt_pair (by rw [alike]) (by rw [alike]; exact alk_ints _ _ h), eqv_ints, PySem.W.dataLt_int]
  have e : dataLt (.tuple (a.2.2.map PyData.int)) (.tuple (b.2.2.map PyData.int)) = decide (a.2.2 < b.2.2) := by
    rw [PySem.W.dataLt_tuple]
    exact PySem.W.dataLt_ints _ _
  rw [e]
  have e2 : PyData.eqv (.int a.2.1) (.int b.2.1) = decide (a.2.1 = b.2.1) := by
    rw [Bool.eq_iff_iff]
    simp [PyData.eqv]
  rw [e2]
  unfold ltP
  by_cases h1 : a.2.1 = b.2.1
  · rw [if_pos (by simpa using h1)]
    by_cases h2 : a.2.2 = b.2.2
    · rw [if_pos (by simpa using h2)]
      have : ¬ b.2.2 < b.2.2 := List.lt_irrefl _
      simp [h1, h2, this]
    · rw [if_neg (by simpa using h2)]
      simp [h1]
  · rw [if_neg (by simpa using h1)]
    simp [h1]
theorem each_of {R : Value → Pq → Prop} : ∀ {bs : List Pq} {us : List Value}, Vals (bs.map fun b => V.ref b.1) us → (∀ b, b ∈ bs → R (.ref b.1) b) → EachIs R us bs
  | [], _, v, _ => by
    cases v
    exact .nil
  | b :: r, _, v, h => by
    cases v with
    | cons e t =>
      cases (show _ = Value.ref b.1 from e)
      exact .cons (h b List.mem_cons_self) (each_of t fun c m => h c (List.mem_cons_of_mem _ m))
theorem vals_back : ∀ {cs : List Pq} {out : List Value}, EachIs (fun v b => v = .ref b.1) out cs → Vals (cs.map fun b => V.ref b.1) out
  | [], _, h => by
    cases h
    exact .nil
  | b :: r, _, h => by
    cases h with
    | cons e t =>
      subst e
      exact .cons rfl (vals_back t)
theorem depth_ints : ∀ l : List Int, PyData.depthAll (l.map PyData.int) ≤ 1
  | [] => by
    rw [List.map_nil, PyData.depthAll]
    decide
  | x :: r => by
    have := depth_ints r
    rw [List.map_cons, PyData.depthAll, PyData.depth]
    omega
theorem depth_enc (b : Pq) : (encP b).depth ≤ 5 := by
  have := depth_ints b.2.2
  unfold encP
  rw [PyData.depth, PyData.depthAll, PyData.depthAll, PyData.depth, PyData.depth, PyData.depthAll]
  omega
/-- what stands at a pair -/
def PqAt (H : Hp) (n : Nat) (b : Pq) : Prop := b.2.2.length = n ∧ ∃ q, H b.1 = some (.tup [.int b.2.1, .ref q]) ∧ H q = some (.tup (b.2.2.map V.int))
section
variable {X : Cx} {pins : List (Addr × Obj)} {σ : L2.St} {H : Hp} {s : Shared}
theorem reads_ints : ∀ {l : List Int} {us : List Value}, Vals (l.map V.int) us → ∀ h : Heap, ReadsAll h us (l.map PyData.int) []
  | [], _, v, h => by
    cases v
    exact .nil
  | x :: r, _, v, h => by
    cases v with
    | cons e t =>
      obtain ⟨tk, e⟩ := (show ∃ tk, _ = Value.int x tk from e)
      subst e
      exact .cons (.int x tk) (reads_ints t h)
theorem reads_pq {n : Nat} {b : Pq} (I : Inv X pins σ H s) (h : PqAt H n b) : Reads s.heap (.ref b.1) (encP b) [] := by
  obtain ⟨_, q, h1, h2⟩ := h
  obtain ⟨its, r1, ⟨o1, a1, b1, n1, c1⟩, _⟩ := I.tuple (SqT.of h1)
  obtain ⟨jts, r2, ⟨o2, a2, b2, n2, c2⟩, _⟩ := I.tuple (SqT.of h2)
  cases r1 with
  | cons e1 t1 =>
    cases t1 with
    | cons e2 t2 =>
      cases t2
      obtain ⟨tk, e1⟩ := (show ∃ tk, _ = Value.int b.2.1 tk from e1)
      subst e1
      cases (show _ = Value.ref q from e2)
      have z := Reads.tuple a2 b2 c2 (show ReadsAll s.heap jts.toArray.toList (b.2.2.map PyData.int) [] from reads_ints r2 _)
      exact Reads.tuple a1 b1 c1 (ReadsAll.cons (.int _ tk) (ReadsAll.cons z .nil))
/-- sorted(pairs, reverse=True) -/
def rSortP (K : Frag) : List V → List V → Hp → VK → Prop := fun vs zs H Q => ∃ (l : Addr) (bs : List Pq) (n : Nat), vs = [.ref l] ∧ zs = [.bl true] ∧ SqL K H l (bs.map fun b => V.ref b.1) ∧ (∀ b, b ∈ bs → PqAt H n b) ∧
  ∀ (cs : List Pq) (p : Addr), cs.Perm bs → cs.Pairwise (fun x y => ¬ ltP x.2 y.2) → H p = none → Q (.ref p) (upd H p (.lst (cs.map fun b => V.ref b.1)))
theorem cr_sortP {K : Frag} (hK : X.K = K) {k : Nat} (hr : Room k X.A) : CallRK X (.builtin "sorted") [Str.ofString "reverse"] (rSortP K) := by
  subst hK
  intro pi s0 sl H0 vs zs us ws Q0 J r rz h0
  obtain ⟨l, bs, n, rfl, rfl, hl, hb, q⟩ := h0
  obtain rfl := Vals.ref1 r
  obtain ⟨w1, rfl, e1⟩ := vals1 rz
  obtain rfl : w1 = Value.bool true := e1
  obtain ⟨its, rv, pl, hz⟩ := J.list hl
  have al : ∀ b, b ∈ bs → ∀ c, c ∈ bs → b.2.2.length = c.2.2.length := fun b mb c mc => by rw [(hb b mb).1, (hb c mc).1]
  have hal : AllAlike (bs.map encP) := by
    intro d md d' md'
    obtain ⟨b, mb, rfl⟩ := List.mem_map.mp md
    obtain ⟨c, mc, rfl⟩ := List.mem_map.mp md'
    exact alk_enc (al b mb c mc)
  refine PySem.W.sorted_rev_data (R := fun v (b : Pq) => v = .ref b.1) (bs := bs) (enc := encP) pl.isList (each_of rv fun b _ => rfl) (each_of rv fun b m => ⟨[], reads_pq J (hb b m)⟩) hal (.inl fun d md => by
    obtain ⟨b, _, rfl⟩ := List.mem_map.mp md
    exact ⟨_, _, rfl⟩) (by rw [List.length_map] at hz; exact hz) (fun b _ => by
    have := depth_enc b
    have := hr.un
    omega) fun out ho eo => ?_
  have pm : (bs.mergeSort (dataLe true encP)).Perm bs := List.mergeSort_perm bs _
  have pw : (bs.mergeSort (dataLe true encP)).Pairwise (fun x y => ¬ ltP x.2 y.2) := by
    have z := PySem.W.sort_pairwise (PySem.W.sortLe_total _ true _) (le := dataLe true encP) bs
    refine List.Pairwise.imp_of_mem ?_ z
    intro x y mx my hxy
    have e : dataLe true encP x y = !dataLt (encP x) (encP y) := rfl
    rw [e, lt_enc (al x (pm.mem_iff.mp mx) y (pm.mem_iff.mp my))] at hxy
    simpa using hxy
  obtain ⟨ep, he⟩ := PyProof.Rows.sortedAll_at s0.heap its out.toArray
  have hlen : ((bs.mergeSort (dataLe true encP)).map fun b => V.ref b.1).length ≤ sizeLine := by
    rw [List.length_map, pm.length_eq]
    rw [List.length_map] at hz
    exact hz
  exact ⟨.ref _, upd H0 (s0.heap.objs.size + 1) (.lst ((bs.mergeSort (dataLe true encP)).map fun b => V.ref b.1)), J.laid (t' := s0.toks) (fun _ _ => PyProof.Rows.sortedAll_old) (Nat.le_succ _) ⟨hlen, _, ep, vals_back eo, by rw [← he]⟩, rfl, q _ _ pm pw (J.hok.fresh (Nat.le_succ _))⟩
end
end Z
set_option maxHeartbeats 4000000
namespace Z
open PySem PySem.Spec PyProof.Rows L2
/-- a key of a table: whole numbers and texts -/
abbrev Tk := List L2.Key
/-- the pairs of the locked table at d, each a new tuple of the key's own tuple and the value -/
def ItP (d : Addr) (o : Obj) (kvs : List (Tk × V)) : It where
  go := fun i H => i < kvs.length ∧ H d = some (.frz o (.dT kvs))
  yld := fun i H x H' => ∃ (T q : Addr) (k : Tk) (v : V), x = .ref T ∧ H' = upd H T (.tup [.ref q, v]) ∧ H T = none ∧ H q = some (.tup (k.map kV)) ∧ kvs[i]? = some (k, v)
  stop := fun i H => kvs.length ≤ i ∧ H d = some (.frz o (.dT kvs))
section
variable {X : Cx} {pins : List (Addr × Obj)} {σ : L2.St} {H : Hp} {s : Shared} {d : Addr} {o : Obj}
theorem frz_at {kvs : List (Tk × V)} (J : Inv X pins σ H s) (h : H d = some (.frz o (.dT kvs))) :
    (d == sysModules) = false ∧ kvs.length ≤ sizeLine ∧ ∃ es ep, o.data = .dict es ep ∧ DT.Raw s.heap d es ep ∧ es.size = kvs.length ∧
      ∀ i k v, kvs[i]? = some (k, v) → ∃ (q : Addr) (u : Value) (hi : i < es.size), es[i].key = .ref q ∧ es[i].val = u ∧ RelV v u ∧ H q = some (.tup (k.map kV)) := by
  obtain ⟨e0, z, ns, xs, pr, o2, es, ep, e1, ex, ed, ee, _⟩ := J.hok d _ h
  rw [e0] at e1
  cases e1
  have l1 := size_of_entries ee
  have l2 := Paired.length pr
  refine ⟨ns, z, es, ep, ed, ⟨o, e0, ex, ed⟩, by omega, fun i k v hi => ?_⟩
  obtain ⟨b, hb, k1, k2, k3⟩ := paired_get pr hi
  have lt : i < es.size := by
    have := (List.getElem?_eq_some_iff.mp hb).1
    omega
  have at_ := entry_at ee i
  rw [hb, Array.getElem?_eq_getElem lt] at at_
  have at2 : es[i] = entryOfKey _ b := Option.some.inj at_
  exact ⟨b.2.1, b.2.2, lt, by rw [at2]; rfl, by rw [at2]; rfl, k3, k2⟩
end
section
variable {P : Program} {w : World} {K : Frag} {d : Addr} {o : Obj} {es : Array DictEntry} {ep : Nat}
theorem turn_pairs {kvs : List (Tk × V)} {elts : List Expr} {kk : Nat} {tpos : Pos} (it : Addr) (hod : o.data = .dict es ep) :
    Turn P w K (.Tuple elts kk tpos) (ItP d o kvs) [it] it (fun i h => ∃ a b, IsItemIter h it d i es.size ep a b) where
  mem := List.mem_singleton.mpr rfl
  obj := by
    rintro i h ⟨a, b, e⟩ c hc
    rw [List.mem_singleton.mp hc]
    exact ⟨_, e, fun v z => nomatch z⟩
  keep := by
    rintro i h h' ⟨a, b, e⟩ k
    exact ⟨a, b, k it (List.mem_singleton.mpr rfl) _ e⟩
  item := by
    intro X e1 e2 e3 calm i pi s0 sl H0 E J hf st hg
    subst e1 e2 e3
    obtain ⟨hi, hd⟩ := hg
    obtain ⟨a, b, hit⟩ := st
    obtain ⟨ns, z, es', ep', ed, raw, hsz, ent⟩ := frz_at J hd
    rw [hod] at ed
    cases ed
    have pair : kvs[i]? = some (kvs[i].1, kvs[i].2) := List.getElem?_eq_getElem hi
    obtain ⟨q, u, lt, k1, k2, ru, hq⟩ := ent i _ _ pair
    have old : it < s0.heap.objs.size := Heap.lt_size hit
    refine DT.nextI hit raw lt fun h1 out there big same => ?_
    rw [k1, k2] at out there
    refine ⟨_, rfl, wpAny_letOwnedTupleGo_items (s := { s0 with heap := h1 }) out fun h2 back but => ?_⟩
    have new : ObjOk X.prog X.w (upd H0 s0.heap.objs.size (.tup [.ref q, kvs[i].2])) h2 s0.heap.objs.size (.tup [.ref q, kvs[i].2]) :=
      ⟨by show 2 ≤ sizeLine; decide, [.ref q, u], .cons rfl (.cons ru .nil), ⟨_, (but.2 _ (Nat.ne_of_gt old)).trans there, rfl, _, rfl⟩⟩
    refine ⟨.ref s0.heap.objs.size, _, J.turnedNew (t' := s0.toks) (ch := [it]) (fun c oc hc e => ?_) hf (Nat.le_refl _) new, rfl, ⟨_, q, _, _, rfl, rfl, J.hok.fresh (Nat.le_refl _), hq, pair⟩, ⟨_, _, back⟩, fun c hc => ?_⟩
    · have ne : c ≠ it := fun z => hc (List.mem_singleton.mpr z)
      exact (but.2 c ne).trans (same c oc ne e)
    · rw [List.mem_singleton.mp hc, upd_ne (Nat.ne_of_lt old)]
      exact (hf it (List.mem_singleton.mpr rfl)).1
  done := by
    intro X e1 e2 e3 calm i pi s0 sl H0 E J hf st hg
    subst e1 e2 e3
    obtain ⟨hi, hd⟩ := hg
    obtain ⟨a, b, hit⟩ := st
    obtain ⟨g0, g1, g2, g3, g4, g5⟩ := hf it (List.mem_singleton.mpr rfl)
    obtain ⟨ns, z, es', ep', ed, raw, hsz, ent⟩ := frz_at J hd
    rw [hod] at ed
    cases ed
    exact DT.endI (J.ok.hd calm) hit raw (by omega) fun h1 but => ⟨rfl, J.turned (t' := s0.toks) (fun c oc hc e => but c oc hc e) g0 g1 g3 g4 g5⟩
  self := by
    rintro A i s0 Q E ⟨a, b, e⟩ k
    exact PySem.W.kcp_self e k
end
def iPairs (td : TE) : TI := fun σ H R => td σ H fun x H1 => ∃ d o kvs, x = .ref d ∧ H1 d = some (.frz o (.dT kvs)) ∧ R (ItP d o kvs) H1
/-- for k, v in d.items(), d's keys tuples -/
theorem pi_pairs {X : Cx} {e : Expr} {td : TE} {apos cpos : Pos} {elts : List Expr} {kk : Nat} {tpos : Pos} (he : PE X e td) (hbase : attributeBase e "items" X.env (eval e X.env) = eval e X.env := by rfl) (hline : (apos.endLine == cpos.line) = true := by rfl) :
    PI X (.Tuple elts kk tpos) (.Call (.Attribute e "items" apos) [] [] cpos) (iPairs td) := by
  refine ⟨fun pi s0 sl H0 R J h => ?_⟩
  refine wpAny_Call_method (T := "dict") (id := "dict.items") hbase rfl hline F.plainAttrs_dict F.slot_dict_items F.type_dict_items (thn (he.run pi s0 sl H0 _ J h) fun u s1 q1 => ?_)
  obtain ⟨x, H1, J1, rx, d, o, kvs, rfl, hd, q⟩ := q1
  cases (show u = Value.ref d from rx)
  obtain ⟨ns, z, es, ep, ed, raw, hsz, ent⟩ := frz_at J1 hd
  obtain ⟨o1, a1, a2, a3⟩ := id raw
  refine ⟨raw.typeIs, fun c hc => ?_, ?_⟩
  · cases hc
    exact ⟨o1, a1, a2.2.1⟩
  have J2 : Inv X pi sl H1 { s1 with heap := s1.heap.push { cls := .type "dict_items", data := .fields #[.ref d] } } := J1.kept (t' := s1.toks) fun b ob e => Heap.get?_push_of_some _ e
  show wpAny _ _ (callWith cpos (.builtin "dict.items") [.ref d] [] []) _ X.xe s1
  refine method_meetsIn F.slot_dict_items F.entry_dict_items rfl (PySem.evalArgs_none ⟨rfl, raw.typeIs, F.args_dict_items_1 _, _, DT.meetsItems (es := es) (ep := ep) ns, raw, ?_⟩)
  exact DT.iterI (d := d) ⟨_, Heap.get?_push_size _ rfl, rfl, rfl⟩ (raw.push _) (pi_one (tk := s1.toks) J2 _ (turn_pairs _ ed) ⟨.none, .none, Heap.get?_push_size _ rfl⟩ q)
end Z
set_option maxHeartbeats 4000000
namespace Z
open PySem PySem.Spec PyProof.Rows L2
section
variable {X : Cx} {pins : List (Addr × Obj)} {σ : L2.St} {H : Hp} {s : Shared}
/-- a tracked table takes a key -/
theorem put_tab {E : Value → Shared → Prop} {D q : Addr} {kvs : List (Tk × V)} {k : Tk} {v : V} {r : Value} {Q : Unit → Shared → Prop} (hu : X.A.units < cLine) (J : Inv X pins σ H s) (hD : H D = some (.dT kvs)) (hq : H q = some (.tup (k.map kV)))
    (hz : kvs.length < sizeLine) (rv : RelV v r) (h : ∀ s2, Inv X pins σ (upd H D (.dT (putK kvs k v))) s2 → Q () s2) : wpAny (model X.prog X.w) X.A (dictSet D (.ref q) r) Q E s := by
  obtain ⟨z, ns, xs, rel, tab⟩ := dt_of J.hok hD
  have l1 : xs.length ≤ sizeLine := by
    rw [← Paired.length rel]
    exact z
  have l2 : (putK kvs k v).length ≤ sizeLine := by
    have := length_putK kvs k v
    omega
  refine wpAny_dictSet_heap (hsz := l1) (knd := tupleKind (mixKind X.prog X.w)) hu (key_of J.hok hq) tab fun h2 tab2 but => h _ ?_
  obtain ⟨o, es, ep, a1, a2, a3, a4, _, a5⟩ := tab2
  refine d_write J (by rw [hD]; exact True.intro) but ⟨o, a1⟩ ⟨l2, ns, _, (rel.put k hq rv).keeps fun c ys ec => ?_, o, es, ep, a1, a2, a3, a4, a5⟩
  rw [upd_ne (ne_of ec hD (fun z => nomatch z))]
  exact ec
end
/-- what a comprehension of a table asks: W tells what stands ahead of each turn -/
def tDcT (wi : TI) (g : TG) (tt : TT) (tk tv : TE) (vs : List Nat) : TE := fun σ H Q => wi σ H fun J H1 => ∀ D, H1 D = none → ∃ W : Nat → Nat → Hp → Prop, (∃ m, W 0 m (upd H1 D (.dT []))) ∧ ∀ i m H2, W i m H2 →
  (J.stop i H2 ∧ Q (.ref D) H2) ∨ (J.go i H2 ∧ ∃ N : Hp → Prop, (∀ H3, N H3 → ∃ m', m' < m ∧ W (i + 1) m' H3) ∧ ∀ x H3, J.yld i H2 x H3 → g x (wipe σ vs) H3 fun σ2 H4 => wipe σ2 vs = wipe σ vs ∧ tt σ2 H4 fun b H5 =>
    if b = true then tk σ2 H5 fun y H6 => tv σ2 H6 fun z H7 => ∃ (kvs : List (Tk × V)) (k : Tk) (q : Addr), y = .ref q ∧ H7 q = some (.tup (k.map kV)) ∧ H7 D = some (.dT kvs) ∧ kvs.length < sizeLine ∧ N (upd H7 D (.dT (putK kvs k z))) else N H5)
section
variable {X : Cx} {kx vx tg iter : Expr} {ifs : List Expr} {scope : Scope} {own : List (Str × Nat)} {pos : Pos} {wi : TI} {g : TG} {tt : TT} {tk tv : TE}
abbrev AllB (X : Cx) (scope : Scope) (F : Cx → Prop) : Prop := ∀ (s : Shared) (H : Hp) (C : Addr) (cl : List (Str × Addr)) (fp : List Addr), F (X.blk s H scope (compEnvC scope cl C X.env) fp)
theorem core_dcT {pi : List (Addr × Obj)} {s0 : Shared} {sl : L2.St} {H0 : Hp} {Q : VK} {pos' : Pos} {use : Option (Value → Sem Unit)} {Qf : Value → Shared → Prop} (hc : X.calm = true) {k : Nat} (hr : Room k X.A) (hN : X.N.Nodup) (J0 : Inv X pi sl H0 s0) (hi : PI X tg iter wi) (ok : BlkOk X.N X.env.scope scope own)
    (hg : AllB X scope fun Y => PG Y tg g) (ht : AllB X scope fun Y => PTs Y ifs tt) (hk : AllB X scope fun Y => PE Y kx tk) (he : AllB X scope fun Y => PE Y vx tv) (hs : ∀ x, foldedSetIterable iter X.env x = pure x) (h : tDcT wi g tt tk tv (own.map (·.2)) sl H0 Q)
    (fine : ∀ D C s' m H', Inv X pi sl H' s' → Q (.ref D) H' → s'.heap.Ns C m → FpOk X pi H' C → compPost (model X.prog X.w) X.A X.xe use Qf (.ref D) C (.ok .next) s') :
    wpAny (model X.prog X.w) X.A (comprehension (.DictComp kx vx [⟨tg, iter, ifs, 0⟩] scope pos) scope X.env pos' newDict false (eval iter X.env) use) Qf X.xe s0 := by
  have cells : ∀ y, y ∈ scope.names → y.2 = .free → ∃ c, X.env.cells.lookup y.1 = some c := by
    intro y my e
    rcases ok.free y my e with z | z
    · exact J0.ok.has _ (Or.inl z)
    · exact J0.ok.has _ (Or.inr z)
  refine wpAny_comprehension_free (use := use) rfl hs (closure_ok cells) ok.kind (fun y my e => by rw [ok.uniq y my, e]) (thn (hi.run pi s0 sl H0 _ J0 h) fun xv s1 h1 => thn h1 fun itv s2 h2 => ?_)
  obtain ⟨it, fp, tn, J, H2, rfl, J2, T, st2, f2, q⟩ := h2
  refine wpAny_newObj_type (newEnv_comp ?_)
  obtain ⟨D, hD⟩ : ∃ D, D = s2.heap.objs.size := ⟨_, rfl⟩
  have nD : H2 D = none := J2.hok.fresh (by rw [hD]; exact Nat.le_refl _)
  obtain ⟨W, ⟨m0, w0⟩, turn⟩ := q D nD
  obtain ⟨s3, hs3⟩ : ∃ s3 : Shared, s3 = { s2 with heap := s2.heap.push { cls := .type "dict", data := .dict #[] } } := ⟨_, rfl⟩
  have J3 : Inv X pi sl (upd H2 D (.dT [])) s3 := by
    rw [hs3, hD]
    exact J2.laid (t' := s2.toks) (fun b o e => Heap.get?_push_of_some _ e) (Nat.le_refl _) (dt_empty s2.heap J2.big)
  have hp3 : s3.heap = s2.heap.push { cls := .type "dict", data := .dict #[] } := by rw [hs3]
  have f3 : ∀ b, b ∈ fp → FpOk X pi (upd H2 D (.dT [])) b ∧ b < s3.heap.objs.size := by
    intro b mb
    obtain ⟨o, e, _⟩ := T.obj _ _ st2 b mb
    have lt := Heap.lt_size e
    refine ⟨⟨?_, (f2 b mb).2⟩, ?_⟩
    · rw [upd_ne (by rw [hD]; exact Nat.ne_of_lt lt)]
      exact (f2 b mb).1
    · rw [hp3, Heap.size_push]
      exact Nat.lt_succ_of_lt lt
  have st3 : tn 0 s3.heap := T.keep _ _ _ st2 fun b _ o e => by
    rw [hp3]
    exact Heap.get?_push_of_some _ e
  have J4 := block_start J3 ok hN f3
  obtain ⟨s4, hs4⟩ : ∃ s4 : Shared, s4 = { s3 with heap := pushCells (s3.heap.push { cls := .type "dict", data := .dict #[] }) scope.names } := ⟨_, rfl⟩
  obtain ⟨H3, hH3⟩ : ∃ H3, H3 = upd H2 D (.dT []) := ⟨_, rfl⟩
  have pg := hg s3 H3 s3.heap.objs.size (cellsFrom (s3.heap.objs.size + 1) scope.names (cloFrom X.env.cells scope.names [])) fp
  have pt := ht s3 H3 s3.heap.objs.size (cellsFrom (s3.heap.objs.size + 1) scope.names (cloFrom X.env.cells scope.names [])) fp
  have pk := hk s3 H3 s3.heap.objs.size (cellsFrom (s3.heap.objs.size + 1) scope.names (cloFrom X.env.cells scope.names [])) fp
  have pv := he s3 H3 s3.heap.objs.size (cellsFrom (s3.heap.objs.size + 1) scope.names (cloFrom X.env.cells scope.names [])) fp
  rw [← hs4] at J4
  rw [← hH3] at J3 J4 f3 w0
  suffices z : codeAny (model X.prog X.w) X.A (.compStart (.DictComp kx vx [⟨tg, iter, ifs, 0⟩] scope pos) 0 (.ref it) (.ref D) (compEnvC scope (cellsFrom (s3.heap.objs.size + 1) scope.names (cloFrom X.env.cells scope.names [])) s3.heap.objs.size X.env))
      (compPost (model X.prog X.w) X.A X.xe use Qf (.ref D) s3.heap.objs.size) s4 by
    rw [hs4, hs3, hD] at z
    exact z
  obtain ⟨ce, hce⟩ : ∃ ce, ce = compEnvC scope (cellsFrom (s3.heap.objs.size + 1) scope.names (cloFrom X.env.cells scope.names [])) s3.heap.objs.size X.env := ⟨_, rfl⟩
  have cl : ce.locals = s3.heap.objs.size := by
    rw [hce]
    rfl
  rw [← hce]
  rw [← hce] at J4 pg pt pk pv
  obtain ⟨B, hB⟩ : ∃ B, B = X.blk s3 H3 scope ce fp := ⟨_, rfl⟩
  have n3 : ∀ b, b ∈ fp → H3 b = none := fun b mb => (f3 b mb).1.1
  have st4 : tn 0 s4.heap := T.keep _ _ _ st3 fun b _ o e => by
    rw [hs4]
    exact pushCells_keeps _ _ _ _ (Heap.get?_push_of_some _ e)
  have still : ∀ {u : L2.St} {G : Hp} {s' : Shared}, Inv (X.blk s3 H3 scope ce fp) [] u G s' → (∀ b, b ∈ fp → G b = none) → ∀ b, b ∈ fp → FpOk (X.blk s3 H3 scope ce fp) [] G b := by
    intro u G s' J' hn b mb
    have q1 := J'.ok.exf b mb
    exact ⟨hn b mb, q1.1, J'.ok.exfs b mb, Or.inl mb, fun x c e => q1.2 x c e, fun p hp => absurd (show p ∈ ([] : List (Addr × Obj)) ++ [] from hp) (by simp)⟩
  refine codeAny_compStart_dict ?loop (T.self X.A 0 _ _ _ st4 ?loop)
  refine compLoop_anyD (fun n s' => ∃ i G, W i n G ∧ (∀ b, b ∈ fp → G b = none) ∧ tn i s'.heap ∧ Inv (X.blk s3 H3 scope ce fp) [] (wipe sl (own.map (·.2))) G s') ?_ m0 ⟨0, H3, w0, n3, st4, J4⟩
  rintro n s5 ⟨i, G, w5, n5, st5, J5⟩
  rcases turn i n G w5 with ⟨stop, fin⟩ | ⟨go, N, less, each⟩
  · have last := T.done (X.blk s3 H3 scope ce fp) rfl rfl rfl hc i [] s5 _ G (fun _ _ => False) J5 (still J5 n5) st5 stop
    refine thnF last fun r s6 ⟨er, J6⟩ => ?_
    subst er
    have J7 : Inv X pi sl G s6 := J3.call' (ch := fp) J6.os J6.base J6.hok J6.bare fun b mb => by
      obtain ⟨_, q1, q2, q3, q4, q5⟩ := (f3 b mb).1
      exact ⟨q3, q1, q4, q5⟩
    have free : G s3.heap.objs.size = none := by
      rw [← cl]
      exact J6.free
    obtain ⟨m, hm, _⟩ := J6.loc
    have hm2 : s6.heap.Ns s3.heap.objs.size m := by
      rw [← cl]
      exact hm
    exact fine D s3.heap.objs.size s6 m G J7 fin hm2 (J3.fpOk (Nat.le_refl _) free)
  · have next := T.item (X.blk s3 H3 scope ce fp) rfl rfl rfl hc i [] s5 _ G (fun _ _ => False) J5 (still J5 n5) st5 go
    refine thnF next fun r s6 ⟨u, er, h6⟩ => ?_
    subst er
    refine thnF h6 fun _ s7 ⟨x, G7, J7, r7, y7, st7, n7⟩ => ?_
    refine thnF (pg.run _ s7 _ G7 x u _ (J7.pinned (still J7 n7) (T.obj _ _ st7)) r7 (each x G7 y7)) fun _ s8 ⟨v8, G8, J8, hw, q8⟩ => ?_
    refine thnF (pt.run _ s8 v8 G8 _ J8 q8) fun b s9 ⟨G9, J9, q9⟩ => ?_
    have on : ∀ {s' : Shared} {G' : Hp}, Inv (X.blk s3 H3 scope ce fp) ([] ++ pinsAt fp s7.heap) v8 G' s' → N G' → ∃ m, m < n ∧ ∃ i G, W i m G ∧ (∀ b, b ∈ fp → G b = none) ∧ tn i s'.heap ∧ Inv (X.blk s3 H3 scope ce fp) [] (wipe sl (own.map (·.2))) G s' := by
      intro s' G' J' nG
      obtain ⟨m', lt, w'⟩ := less G' nG
      have pin : ∀ c, c ∈ fp → ∀ o, s7.heap.get? c = some o → s'.heap.get? c = some o ∧ G' c = none := by
        intro c mc o e
        have z := J'.pin (c, o) (List.mem_append_right _ (List.mem_append_right _ (mem_pinsAt mc e)))
        exact And.intro z.1 z.2.1
      have len : (wipe sl (own.map (·.2))).length = v8.length := by rw [← hw, wipe_length]
      refine ⟨m', lt, i + 1, G', w', fun c mc => ?_, T.keep _ _ _ st7 fun c mc o e => (pin c mc o e).1, (J'.unpinned (pins := [])).weak len fun j v e => ?_⟩
      · obtain ⟨o, e, _⟩ := T.obj _ _ st7 c mc
        exact (pin c mc o e).2
      · rw [← hw] at e
        exact (wipe_some e).1
    cases b with
    | false => exact on J9 q9
    | true =>
      refine thnF (pk.run _ s9 v8 G9 _ J9 q9) fun z s10 ⟨yk, G10, J10, r10, q10⟩ => ?_
      refine thnF (pv.run _ s10 v8 G10 _ J10 q10) fun z2 s11 ⟨yv, G11, J11, r11, kvs, kk, qa, ek, hq, hD11, hz, nx⟩ => ?_
      subst ek
      cases (show z = Value.ref qa from r10)
      exact put_tab (X := X.blk s3 H3 scope ce fp) (by have := hr.un; show X.A.units < cLine; omega) J11 hD11 hq hz r11 fun s12 J12 => on J12 nx
/-- as a value -/
theorem pe_dcT (hc : X.calm = true) {k : Nat} (hr : Room k X.A) (hN : X.N.Nodup) (hi : PI X tg iter wi) (ok : BlkOk X.N X.env.scope scope own) (hg : AllB X scope fun Y => PG Y tg g) (ht : AllB X scope fun Y => PTs Y ifs tt) (hk : AllB X scope fun Y => PE Y kx tk)
    (he : AllB X scope fun Y => PE Y vx tv) (hs : ∀ x, foldedSetIterable iter X.env x = pure x := by intro _; rfl) : PE X (.DictComp kx vx [⟨tg, iter, ifs, 0⟩] scope pos) (tDcT wi g tt tk tv (own.map (·.2))) := by
  refine ⟨fun pi s0 sl H0 Q J0 h => ?_⟩
  rw [arm_eval_DictComp]
  refine core_dcT hc hr hN J0 hi ok hg ht hk he hs h fun D C s' m G J' q hn f => ?_
  obtain ⟨g0, g1, g2, g3, g4, g5⟩ := f
  exact ⟨m, hn, fun h3 but => ⟨.ref D, G, J'.turned (t' := s'.toks) (fun b o mb e => (but.2 b mb).trans e) g0 g1 g3 g4 g5, rfl, q⟩⟩
/-- name = {..} on one line, the name a local -/
theorem ps_setDcT {i : Nat} {y : Str} {py spos : Pos} (hc : X.calm = true) {k : Nat} (hr : Room k X.A) (hN : X.N.Nodup) (hy : X.N[i]? = some y) (loc : X.env.scope.names.lookup y = some .local) (sw : swapsWith (.DictComp kx vx [⟨tg, iter, ifs, 0⟩] scope pos) (some (.Name y py)) spos.line X.env = pure true)
    (hi : PI X tg iter wi) (ok : BlkOk X.N X.env.scope scope own) (hg : AllB X scope fun Y => PG Y tg g) (ht : AllB X scope fun Y => PTs Y ifs tt) (hk : AllB X scope fun Y => PE Y kx tk) (he : AllB X scope fun Y => PE Y vx tv) (hs : ∀ x, foldedSetIterable iter X.env x = pure x := by intro _; rfl) :
    PS X (.Assign [.Name y py] (.DictComp kx vx [⟨tg, iter, ifs, 0⟩] scope pos) spos) (tAsg (tDcT wi g tt tk tv (own.map (·.2))) (gName i)) := by
  refine ⟨fun pi s0 sl H0 D J0 h => ?_⟩
  rw [exec_Assign_Name_used _ _ _ _ sw]
  refine wpAny_bind (wpAny_standAt (wpAny_bind ?_))
  show wpAny _ X.A (do let _ ← comprehension (.DictComp kx vx [⟨tg, iter, ifs, 0⟩] scope pos) scope X.env (firstIterPos [⟨tg, iter, ifs, 0⟩] pos) newDict false (eval iter X.env) (some (assign (.Name y py) X.env))) _ _ s0
  refine wpAny_bind (thn (core_dcT (Qf := fun _ s2 => SP X pi D .next s2) hc hr hN J0 hi ok hg ht hk he hs (show tDcT wi g tt tk tv (own.map (·.2)) sl H0 (fun x H1 => gName i x sl H1 D.nx) from h) fun L C s' m G J' q hn f => ?_) fun _ s2 hq => wpAny_pure (wpAny_pure hq))
  obtain ⟨g0, g1, g2, g3, g4, g5⟩ := f
  show wpAny _ _ (assign (.Name y py) X.env (.ref L)) _ _ _
  refine wpAny_assign_Name (store_ok2 (v := V.ref L) J' hN hy (Or.inl loc) rfl (fun s2 J2 t2 => ?_) (Or.inr loc))
  obtain ⟨a, but, way⟩ := t2
  have ne : C ≠ a := by
    rcases way with z | z
    · rw [z]
      exact g1
    · exact fun e => g4 y a z e.symm
  exact ⟨m, hn.sameBut but ne, fun h3 b3 => ⟨_, G, J2.turned (t' := s2.toks) (fun b o mb e => (b3.2 b mb).trans e) g0 g1 g3 g4 g5, q⟩⟩
theorem sw_trueD {gs : List Comprehension} {py : Pos} {y : Str} {l : Nat} {env : Env} (hk : env.scope.kind = .function) (hy : env.scope.names.lookup y = some .local) (hl : (py.line == pos.line) = true)
    (ha : (scope.names.any fun (n, k) => n == y && (k == .local || k == .cell)) = false) : swapsWith (.DictComp kx vx gs scope pos) (some (.Name y py)) l env = pure true := by
  have k1 : env.kindOf y = some .local := hy
  have k2 : env.blockKind = .function := by
    unfold Env.blockKind
    rw [hk]
    rfl
  unfold swapsWith
  simp only [k2, k1, ha, Expr.pos, hl]
  rfl
end
end Z
set_option maxHeartbeats 4000000
namespace Z
open PySem PySem.Spec PyProof.Rows L2
/-- the thing at d (the reading's choice) is frozen for good, then the statement runs -/
def tFix (t : TS) : TS := fun D σ H => ∃ d u, H d = some u ∧ Mut (some u) ∧ ∀ o, t D σ (upd H d (.frz o u))
/-- the value is frozen for good -/
def tFixV (t : TE) : TE := fun σ H Q => t σ H fun v H' => ∃ d u, v = .ref d ∧ H' d = some u ∧ Mut (some u) ∧ ∀ o, Q v (upd H' d (.frz o u))
/-- the locked dict's keys -/
def iKeysT (td : TE) : TI := fun σ H R => td σ H fun x H1 => ∃ d o kvs, x = .ref d ∧ H1 d = some (.frz o (.dT kvs)) ∧ R (Itkt d o kvs) H1
section
variable {X : Cx}
theorem hu1 {k : Nat} (hr : Room k X.A) : X.A.units + 1 < cLine := by
  have := hr.un
  omega
theorem ps_fix {st : Stmt} {t : TS} (h : PS X st t) : PS X st (tFix t) := by
  refine ⟨fun pins s σ H D I hw => ?_⟩
  obtain ⟨d, u, hd, mu, hw⟩ := hw
  obtain ⟨od, I1⟩ := I.lock hd mu
  exact h.run pins s σ _ D I1 (hw od)
theorem pe_fixV {e : Expr} {t : TE} (h : PE X e t) : PE X e (tFixV t) := by
  refine ⟨fun pins s σ H Q I hw => ?_⟩
  refine thn (h.run pins s σ H _ I hw) fun v s1 ⟨x, H1, I1, r, d, u, ex, hd, mu, q⟩ => ?_
  obtain ⟨od, I2⟩ := I1.lock hd mu
  exact ⟨x, _, I2, r, q od⟩
theorem pi_keysT {tg e : Expr} {td : TE} (he : PE X e td) : PI X tg e (iKeysT td) := by
  refine ⟨fun pins s σ H R I h => ?_⟩
  refine thn (he.run pins s σ H _ I h) fun u s1 ⟨x, H1, I1, rx, d, o, kvs, ex, hd, q⟩ => ?_
  subst ex
  obtain rfl : u = Value.ref d := rx
  obtain ⟨hs, hgd, hx, es, ep, hdt, hsz, ent⟩ := I1.frzT hd
  refine iter_keys hs hgd hx hdt (pi_one (tk := s1.toks) I1 _ (turn_keysT _ hdt) ⟨_, Heap.get?_push_size _ rfl, rfl, ?_⟩ q)
  rw [hsz] <;> rfl
end
abbrev Ex := List Int
def tk (e : Ex) : Tk := e.map Sum.inl
theorem tk_kV (e : Ex) : (tk e).map kV = e.map V.int := by
  unfold tk
  rw [List.map_map]
  rfl
theorem tk_inj {a b : Ex} (h : tk a = tk b) : a = b := by
  unfold tk at h
  induction a generalizing b with
  | nil => cases b with
    | nil => rfl
    | cons y s => cases h
  | cons x r ih => cases b with
    | nil => cases h
    | cons y s =>
      rw [List.map_cons, List.map_cons] at h
      injection h with h1 h2
      rw [Sum.inl.inj h1, ih h2]
section
variable {α : Type}
def enT (f : α → V) (T : List (Ex × α)) : List (Tk × V) := T.map fun p => (tk p.1, f p.2)
def lkT (T : List (Ex × α)) (e : Ex) : Option α := (T.find? fun p => decide (p.1 = e)).map (·.2)
def ptT (T : List (Ex × α)) (e : Ex) (x : α) : List (Ex × α) := if (T.any fun p => decide (p.1 = e)) = true then T.map (fun p => if p.1 = e then (p.1, x) else p) else T ++ [(e, x)]
theorem lkT_nil {e : Ex} : lkT ([] : List (Ex × α)) e = none := rfl
theorem lkT_pos {p : Ex × α} {r : List (Ex × α)} {k : Ex} (e : p.1 = k) : lkT (p :: r) k = some p.2 := by simp [lkT, List.find?_cons, e]
theorem lkT_neg {p : Ex × α} {r : List (Ex × α)} {k : Ex} (e : ¬ p.1 = k) : lkT (p :: r) k = lkT r k := by simp [lkT, List.find?_cons, e]
theorem val_en (f : α → V) (e : Ex) : ∀ T : List (Ex × α), valV (enT f T) (tk e) = (lkT T e).map f
  | [] => rfl
  | p :: r => by
    have ih := val_en f e r
    by_cases h : p.1 = e
    · rw [lkT_pos h]
      exact valV_pos (p := (tk p.1, f p.2)) (by rw [h])
    · rw [lkT_neg h, ← ih]
      exact valV_neg (p := (tk p.1, f p.2)) (fun q => h (tk_inj q))
theorem any_en (f : α → V) (e : Ex) (T : List (Ex × α)) : ((enT f T).any fun kv => decide (kv.1 = tk e)) = T.any fun p => decide (p.1 = e) := by
  unfold enT
  rw [List.any_map]
  congr 1
  funext p
  show decide (tk p.1 = tk e) = _
  by_cases h : p.1 = e
  · rw [h]
    simp
  · rw [decide_eq_false h, decide_eq_false (fun q => h (tk_inj q))]
theorem put_en (f : α → V) (e : Ex) (x : α) (T : List (Ex × α)) : putK (enT f T) (tk e) (f x) = enT f (ptT T e x) := by
  unfold putK ptT
  rw [any_en]
  by_cases h : (T.any fun p => decide (p.1 = e)) = true
  · rw [if_pos h, if_pos h]
    unfold enT
    rw [List.map_map, List.map_map]
    congr 1
    funext p
    show (if tk p.1 = tk e then (tk p.1, f x) else (tk p.1, f p.2)) = _
    by_cases h2 : p.1 = e
    · have : tk p.1 = tk e := by rw [h2]
      rw [if_pos this]
      show _ = (fun p : Ex × α => (tk p.1, f p.2)) (if p.1 = e then (p.1, x) else p)
      rw [if_pos h2]
    · rw [if_neg (fun q => h2 (tk_inj q))]
      show _ = (fun p : Ex × α => (tk p.1, f p.2)) (if p.1 = e then (p.1, x) else p)
      rw [if_neg h2]
  · rw [if_neg h, if_neg h]
    simp [enT]
theorem lkT_some {e : Ex} {x : α} : ∀ {T : List (Ex × α)}, lkT T e = some x → (e, x) ∈ T
  | [], h => by cases h
  | p :: r, h => by
    by_cases q : p.1 = e
    · rw [lkT_pos q] at h
      have e1 : p.2 = x := Option.some.inj h
      rw [← q, ← e1]
      exact List.mem_cons_self
    · rw [lkT_neg q] at h
      exact List.mem_cons_of_mem _ (lkT_some h)
theorem lkT_none {e : Ex} : ∀ {T : List (Ex × α)}, lkT T e = none ↔ ∀ p, p ∈ T → p.1 ≠ e
  | [] => by simp [lkT_nil]
  | p :: r => by
    by_cases q : p.1 = e
    · rw [lkT_pos q]
      simp [q]
    · rw [lkT_neg q, lkT_none]
      simp [q]
def Nd (T : List (Ex × α)) : Prop := (T.map (·.1)).Nodup
theorem lkT_mem {p : Ex × α} : ∀ {T : List (Ex × α)}, Nd T → p ∈ T → lkT T p.1 = some p.2
  | [], _, h => by cases h
  | q :: r, nd, h => by
    have nd2 := List.nodup_cons.mp (show (q.1 :: r.map (·.1)).Nodup from nd)
    rcases List.mem_cons.mp h with e | m
    · rw [e, lkT_pos rfl]
    · rw [lkT_neg (fun z => nd2.1 (by rw [z]; exact List.mem_map_of_mem m))]
      exact lkT_mem nd2.2 m
theorem any_lk {e : Ex} (T : List (Ex × α)) : (T.any fun p => decide (p.1 = e)) = (lkT T e).isSome := by
  cases h : lkT T e with
  | none =>
    show _ = false
    rw [Bool.eq_false_iff]
    intro q
    obtain ⟨p, m, d⟩ := List.any_eq_true.mp q
    exact lkT_none.mp h p m (of_decide_eq_true d)
  | some x => exact List.any_eq_true.mpr ⟨_, lkT_some h, by simp⟩
theorem lkT_map {e k : Ex} {x : α} : ∀ {T : List (Ex × α)}, lkT (T.map (fun p => if p.1 = e then (p.1, x) else p)) k = if k = e then (lkT T k).map (fun _ => x) else lkT T k
  | [] => by split <;> rfl
  | p :: r => by
    have ih := lkT_map (e := e) (k := k) (x := x) (T := r)
    rw [List.map_cons]
    by_cases h : p.1 = k
    · rw [lkT_pos (p := if p.1 = e then (p.1, x) else p) (by split <;> exact h), lkT_pos h]
      by_cases h2 : p.1 = e
      · rw [if_pos h2, if_pos (by rw [← h, h2])]
        rfl
      · rw [if_neg h2, if_neg (by rw [← h]; exact h2)]
    · rw [lkT_neg (p := if p.1 = e then (p.1, x) else p) (by split <;> exact h), lkT_neg h, ih]
theorem lkT_app {e k : Ex} {x : α} : ∀ {T : List (Ex × α)}, lkT (T ++ [(e, x)]) k = (lkT T k).or (if e = k then some x else none)
  | [] => by
    show lkT [(e, x)] k = _
    by_cases h : e = k
    · rw [lkT_pos h, if_pos h]
      rfl
    · rw [lkT_neg h, if_neg h]
      rfl
  | p :: r => by
    rw [List.cons_append]
    by_cases h : p.1 = k
    · rw [lkT_pos h, lkT_pos h]
      rfl
    · rw [lkT_neg h, lkT_neg h, lkT_app]
theorem lk_pt {e k : Ex} {x : α} {T : List (Ex × α)} : lkT (ptT T e x) k = if k = e then some x else lkT T k := by
  unfold ptT
  rw [any_lk]
  cases h : lkT T e with
  | none =>
    rw [if_neg (by simp), lkT_app]
    by_cases q : k = e
    · rw [if_pos q, if_pos q.symm, q, h]
      rfl
    · rw [if_neg q, if_neg (fun z => q z.symm)]
      cases lkT T k <;> rfl
  | some y =>
    rw [if_pos (by simp), lkT_map]
    by_cases q : k = e
    · rw [if_pos q, if_pos q, q, h]
      rfl
    · rw [if_neg q, if_neg q]
theorem len_pt {e : Ex} {x : α} {T : List (Ex × α)} : (ptT T e x).length ≤ T.length + 1 := by
  unfold ptT
  split
  · rw [List.length_map]
    omega
  · rw [List.length_append]
    exact Nat.le_refl _
theorem keys_map {e : Ex} {x : α} (T : List (Ex × α)) : (T.map (fun p => if p.1 = e then (p.1, x) else p)).map (·.1) = T.map (·.1) := by
  rw [List.map_map]
  congr 1
  funext p
  show (if p.1 = e then (p.1, x) else p).1 = p.1
  split <;> rfl
theorem nd_pt {e : Ex} {x : α} {T : List (Ex × α)} (h : Nd T) : Nd (ptT T e x) := by
  unfold ptT
  rw [any_lk]
  cases q : lkT T e with
  | none =>
    rw [if_neg (by simp)]
    unfold Nd
    rw [List.map_append, List.nodup_append]
    refine ⟨h, by simp, fun a ma b mb => ?_⟩
    have eb : b = e := by simpa using mb
    obtain ⟨p, mp, rfl⟩ := List.mem_map.mp ma
    rw [eb]
    exact lkT_none.mp q p mp
  | some y =>
    rw [if_pos (by simp)]
    unfold Nd
    rw [keys_map]
    exact h
theorem mem_pt {e : Ex} {x : α} {T : List (Ex × α)} {p : Ex × α} (h : p ∈ ptT T e x) : p = (e, x) ∨ (p ∈ T ∧ p.1 ≠ e) := by
  unfold ptT at h
  rw [any_lk] at h
  cases q : lkT T e with
  | none =>
    rw [q, if_neg (by simp)] at h
    rcases List.mem_append.mp h with m | m
    · exact .inr ⟨m, lkT_none.mp q p m⟩
    · exact .inl (by simpa using m)
  | some y =>
    rw [q, if_pos (by simp)] at h
    obtain ⟨r, m, rfl⟩ := List.mem_map.mp h
    by_cases z : r.1 = e
    · rw [if_pos z]
      exact .inl (by rw [z])
    · rw [if_neg z]
      exact .inr ⟨m, z⟩
theorem pt_new {e : Ex} {x : α} {T : List (Ex × α)} (h : lkT T e = none) : ptT T e x = T ++ [(e, x)] := by
  unfold ptT
  rw [any_lk, h, if_neg (by simp)]
theorem nd_nil : Nd ([] : List (Ex × α)) := List.nodup_nil
/-- a frozen table -/
def Frz (H : Hp) (d : Addr) (f : α → V) (T : List (Ex × α)) : Prop := ∃ o, H d = some (.frz o (.dT (enT f T)))
theorem Frz.mono {H H' : Hp} {d : Addr} {f : α → V} {T : List (Ex × α)} (s : Same H H') (h : Frz H d f T) : Frz H' d f T := h.elim fun o e => ⟨o, s _ _ e⟩
theorem Frz.new {H : Hp} {d : Addr} {o : Obj} {f : α → V} {T : List (Ex × α)} : Frz (upd H d (.frz o (.dT (enT f T)))) d f T := ⟨o, upd_same⟩
section
variable {H : Hp} {d q : Addr} {f : α → V} {T : List (Ex × α)} {e : Ex}
theorem dg_f (h : Frz H d f T) (hq : H q = some (.tup (e.map V.int))) : DGet H d (.ref q) ((lkT T e).map f) := by
  obtain ⟨o, ho⟩ := h
  exact .inr ⟨_, tk e, q, .inr ⟨o, ho⟩, rfl, by rw [tk_kV]; exact hq, (val_en f e T).symm⟩
theorem dg_m (h : H d = some (.dT (enT f T))) (hq : H q = some (.tup (e.map V.int))) : DGet H d (.ref q) ((lkT T e).map f) :=
  .inr ⟨_, tk e, q, .inl h, rfl, by rw [tk_kV]; exact hq, (val_en f e T).symm⟩
def zDG (x y : V) (H : Hp) (Q : VK) : Prop := ∃ a v, x = .ref a ∧ DGet H a y (some v) ∧ Q v H
theorem z_dg {σ : L2.St} {td ty : TE} {Q : VK} (h : td σ H fun x H1 => ty σ H1 fun y H2 => zDG x y H2 Q) : tDGet td ty σ H Q := h
theorem z_dgf {Q : VK} {x : α} (h : Frz H d f T) (hq : H q = some (.tup (e.map V.int))) (hx : lkT T e = some x) (k : Q (f x) H) : zDG (.ref d) (.ref q) H Q := by
  have := dg_f h hq
  rw [hx] at this
  exact ⟨d, _, rfl, this, k⟩
theorem z_dgm {Q : VK} {x : α} (h : H d = some (.dT (enT f T))) (hq : H q = some (.tup (e.map V.int))) (hx : lkT T e = some x) (k : Q (f x) H) : zDG (.ref d) (.ref q) H Q := by
  have := dg_m h hq
  rw [hx] at this
  exact ⟨d, _, rfl, this, k⟩
def zDI (y x : V) (H : Hp) (Q : VK) : Prop := ∃ a o, x = .ref a ∧ DGet H a y o ∧ Q (.bl o.isSome) H
theorem z_di {σ : L2.St} {ty td : TE} {Q : VK} (h : ty σ H fun y H1 => td σ H1 fun x H2 => zDI y x H2 Q) : tDIn ty td σ H Q := h
theorem z_dim {Q : VK} (h : H d = some (.dT (enT f T))) (hq : H q = some (.tup (e.map V.int))) (k : Q (.bl (lkT T e).isSome) H) : zDI (.ref q) (.ref d) H Q :=
  ⟨d, _, rfl, dg_m h hq, by rw [Option.isSome_map]; exact k⟩
theorem isd_m (h : H d = some (.dT (enT f T))) : IsD H d := .inr ⟨_, .inl h⟩
def zDG3 (a : Addr) (y z : V) (H : Hp) (Q : VK) : Prop := ∃ o, DGet H a y o ∧ Q (o.getD z) H
theorem z_dg2 {σ : L2.St} {i : Nat} {ty tx : TE} {Q : VK} (hs : σ[i]? = some (some (.ref d))) (hd : IsD H d) (h : ty σ H fun y H2 => tx σ H2 fun z H3 => zDG3 d y z H3 Q) : tDGet2 (tVar i) ty tx σ H Q :=
  ⟨_, hs, d, rfl, hd, h⟩
theorem z_dg3 {Q : VK} {z : V} (h : H d = some (.dT (enT f T))) (hq : H q = some (.tup (e.map V.int))) (k : Q (((lkT T e).map f).getD z) H) : zDG3 d (.ref q) z H Q := ⟨_, dg_m h hq, k⟩
def zDP (x y v : V) (H : Hp) (R : Hp → Prop) : Prop := ∃ a H4, x = .ref a ∧ DPut H a y v H4 ∧ R H4
theorem z_dp {σ : L2.St} {td ty tv : TE} {D : Ends} (h : tv σ H fun v H1 => td σ H1 fun x H2 => ty σ H2 fun y H3 => zDP x y v H3 (D.nx σ)) : sDPut td ty tv D σ H := h
theorem z_dpm {R : Hp → Prop} {x : α} (h : H d = some (.dT (enT f T))) (hq : H q = some (.tup (e.map V.int))) (hl : T.length < 16777216) (k : R (upd H d (.dT (enT f (ptT T e x))))) : zDP (.ref d) (.ref q) (f x) H R := by
  refine ⟨d, _, rfl, .inr ⟨_, tk e, q, h, rfl, by rw [tk_kV]; exact hq, ?_, rfl⟩, ?_⟩
  · unfold enT
    rw [List.length_map, sizeLine_eq]
    exact hl
  · rw [put_en]
    exact k
theorem z_dnew {σ : L2.St} {Q : VK} (k : ∀ p, H p = none → Q (.ref p) (upd H p (.dT (enT f [])))) : tDNewT σ H Q := fun p hp => k p hp
theorem z_fix {t : TS} {D : Ends} {σ : L2.St} (h : H d = some (.dT (enT f T))) (k : ∀ o, t D σ (upd H d (.frz o (.dT (enT f T))))) : tFix t D σ H := ⟨d, _, h, True.intro, k⟩
theorem z_fixV {t : TE} {σ : L2.St} {Q : VK} (h : t σ H fun v H' => ∃ d u, v = .ref d ∧ H' d = some u ∧ Mut (some u) ∧ ∀ o, Q v (upd H' d (.frz o u))) : tFixV t σ H Q := h
end
end
section
variable {α : Type} {d : Addr} {o : Obj} {f : α → V} {T : List (Ex × α)}
theorem en_get {i : Nat} {k : Tk} {v : V} (h : (enT f T)[i]? = some (k, v)) : ∃ e x, T[i]? = some (e, x) ∧ k = tk e ∧ v = f x := by
  unfold enT at h
  rw [List.getElem?_map] at h
  cases q : T[i]? with
  | none =>
    rw [q] at h
    cases h
  | some p =>
    rw [q] at h
    have := Option.some.inj h
    exact ⟨p.1, p.2, rfl, (congrArg Prod.fst this).symm, (congrArg Prod.snd this).symm⟩
def YKey (f : α → V) (T : List (Ex × α)) : Nat → Hp → V → Hp → Prop := fun i H x H' => H' = H ∧ ∃ e y q, T[i]? = some (e, y) ∧ x = .ref q ∧ H q = some (.tup (e.map V.int))
def YPr (f : α → V) (T : List (Ex × α)) : Nat → Hp → V → Hp → Prop := fun i H x H' => ∃ e y q t, T[i]? = some (e, y) ∧ x = .ref t ∧ H t = none ∧ H' = upd H t (.tup [.ref q, f y]) ∧ H q = some (.tup (e.map V.int))
theorem walk_keysT : Walk (Itkt d o (enT f T)) T.length (fun H => H d = some (.frz o (.dT (enT f T)))) (YKey f T) := by
  have l : (enT f T).length = T.length := by
    unfold enT
    rw [List.length_map]
  refine ⟨fun i H hi q => ⟨q, by omega⟩, fun H q => ⟨q, by omega⟩, fun i H x H' hi q y => ?_⟩
  obtain ⟨e, k, v, c, h1, h2, h3⟩ := y
  obtain ⟨e1, x1, g1, g2, g3⟩ := en_get h1
  refine ⟨e, e1, x1, c, g1, h2, ?_⟩
  rw [h3, g2, tk_kV]
theorem walk_pairsT : Walk (ItP d o (enT f T)) T.length (fun H => H d = some (.frz o (.dT (enT f T)))) (YPr f T) := by
  have l : (enT f T).length = T.length := by
    unfold enT
    rw [List.length_map]
  refine ⟨fun i H hi q => ⟨by omega, q⟩, fun H q => ⟨by omega, q⟩, fun i H x H' hi q y => ?_⟩
  obtain ⟨t, c, k, v, h1, h2, h3, h4, h5⟩ := y
  obtain ⟨e1, x1, g1, g2, g3⟩ := en_get h5
  refine ⟨e1, x1, c, t, g1, h1, h3, ?_, ?_⟩
  · rw [h2, g3]
  · rw [h4, g2, tk_kV]
end
section
variable {α : Type} {σ : L2.St} {H1 : Hp} {g : TG} {tb : TS} {D : Ends} {f : α → V} {T : List (Ex × α)} {d : Addr}
def zFoK (g : TG) (tb : TS) (D : Ends) (σ : L2.St) (x : V) (H1 : Hp) : Prop := ∃ d o kvs, x = .ref d ∧ H1 d = some (.frz o (.dT kvs)) ∧ ∃ W : Nat → Nat → L2.St → Hp → Prop, (∃ m, W 0 m σ H1) ∧ ∀ k m σ H, W k m σ H →
    ((Itkt d o kvs).stop k H ∧ D.nx σ H) ∨ ((Itkt d o kvs).go k H ∧ ∃ N : L2.St → Hp → Prop, (∀ σ' H', N σ' H' → ∃ m', m' < m ∧ W (k + 1) m' σ' H') ∧ ∀ x H', (Itkt d o kvs).yld k H x H' → g x σ H' fun σ2 H2 => tb { D with nx := N, ct := N, bk := D.nx } σ2 H2)
theorem z_foKS {t : TE} (q : t σ H1 fun x H2 => zFoK g tb D σ x H2) : tFor (iKeysT t) g tb D σ H1 := q
theorem z_foK (I : Nat → L2.St → Hp → Prop) (h : Frz H1 d f T) (h0 : I 0 σ H1) (hl : ∀ o, H1 d = some o → ∀ k σ H, I k σ H → H d = some o)
    (hs : ∀ k e y q σ H, T[k]? = some (e, y) → H q = some (.tup (e.map V.int)) → I k σ H → g (.ref q) σ H fun σ2 H2 => tb { D with nx := I (k + 1), ct := I (k + 1), bk := D.nx } σ2 H2) (hd : ∀ σ H, I T.length σ H → D.nx σ H) : zFoK g tb D σ (.ref d) H1 := by
  obtain ⟨o, ho⟩ := h
  refine ⟨d, o, _, rfl, ho, for_it walk_keysT I h0 (fun k σ H _ p => hl _ ho k σ H p) (fun k x σ H H' _ p y => ?_) hd⟩
  obtain ⟨rfl, e, z, q, h1, rfl, h2⟩ := y
  exact hs k e z q σ H' h1 h2 p
def zFoP (g : TG) (tb : TS) (D : Ends) (σ : L2.St) (x : V) (H1 : Hp) : Prop := ∃ d o kvs, x = .ref d ∧ H1 d = some (.frz o (.dT kvs)) ∧ ∃ W : Nat → Nat → L2.St → Hp → Prop, (∃ m, W 0 m σ H1) ∧ ∀ k m σ H, W k m σ H →
    ((ItP d o kvs).stop k H ∧ D.nx σ H) ∨ ((ItP d o kvs).go k H ∧ ∃ N : L2.St → Hp → Prop, (∀ σ' H', N σ' H' → ∃ m', m' < m ∧ W (k + 1) m' σ' H') ∧ ∀ x H', (ItP d o kvs).yld k H x H' → g x σ H' fun σ2 H2 => tb { D with nx := N, ct := N, bk := D.nx } σ2 H2)
theorem z_foPS {t : TE} (q : t σ H1 fun x H2 => zFoP g tb D σ x H2) : tFor (iPairs t) g tb D σ H1 := q
theorem z_foP (I : Nat → L2.St → Hp → Prop) (h : Frz H1 d f T) (h0 : I 0 σ H1) (hl : ∀ o, H1 d = some o → ∀ k σ H, I k σ H → H d = some o)
    (hs : ∀ k e y q t σ H, T[k]? = some (e, y) → H q = some (.tup (e.map V.int)) → H t = none → I k σ H → g (.ref t) σ (upd H t (.tup [.ref q, f y])) fun σ2 H2 => tb { D with nx := I (k + 1), ct := I (k + 1), bk := D.nx } σ2 H2) (hd : ∀ σ H, I T.length σ H → D.nx σ H) : zFoP g tb D σ (.ref d) H1 := by
  obtain ⟨o, ho⟩ := h
  refine ⟨d, o, _, rfl, ho, for_it walk_pairsT I h0 (fun k σ H _ p => hl _ ho k σ H p) (fun k x σ H H' _ p y => ?_) hd⟩
  obtain ⟨e, z, q, t, h1, rfl, h2, rfl, h3⟩ := y
  exact hs k e z q t σ H h1 h3 h2 p
end
section
variable {σ : L2.St} {H1 : Hp} {Q : VK} {te : TE} {tt : TT} {g : TG}
theorem z_lcW {J : It} {n : Nat} {G : Hp → Prop} {Y : Nat → Hp → V → Hp → Prop} {vs : List Nat} (w : Walk J n G Y) (P : Nat → Hp → List V → Prop) (m : ∀ i H H' ys, SameN H H' → P i H ys → P i H' ys) (hl : ∀ i H ys, P i H ys → ys.length ≤ i) (hn : n ≤ 16777216) (h0 : ∀ H, P 0 H []) (hG : ∀ H', Same H1 H' → G H')
    (hs : ∀ k x H H' ys (N : VK) (M : Hp → Prop), k < n → Same H1 H → P k H ys → Y k H x H' → (∀ y H4, Same H H4 → P (k + 1) H4 (ys ++ [y]) → N y H4) → (∀ H3, Same H H3 → P (k + 1) H3 ys → M H3) →
      g x (wipe σ vs) H' fun σ2 H2 => wipe σ2 vs = wipe σ vs ∧ tt σ2 H2 fun b H3 => if b = true then te σ2 H3 N else M H3)
    (k : ∀ D H' ys, H1 D = none → Same H1 H' → H' D = some (.lst ys) → P n H' ys → Q (.ref D) H') : zLc J g tt te vs σ H1 Q := fun D hD => by
  refine lc_it w (fun i H => Same H1 H ∧ ∃ ys, H D = some (.lst ys) ∧ P i H ys) ⟨Same.new hD, [], upd_same, h0 _⟩ (fun i H hi p => hG H p.1) (fun i x H H' hi p y => ?_) (fun H p => by
    obtain ⟨s, ys, h1, h2⟩ := p
    exact k D H ys hD s h1 h2)
  obtain ⟨s, ys, h1, h2⟩ := p
  refine hs i x H H' ys _ _ hi s h2 y (fun y H4 s4 hp => ⟨ys, s4 _ _ h1, ?_, ?_, ys ++ [y], upd_same, m _ _ _ _ (SameN.put (s4 _ _ h1)) hp⟩) (fun H3 s3 hp => ⟨fun a o e => s3 _ _ (s _ _ e), ys, s3 _ _ h1, hp⟩)
  · have := hl _ _ _ h2
    rw [sizeLine_eq]
    omega
  · intro b o hb
    rw [upd_ne (ne_of_none hb hD)]
    exact s4 _ _ (s _ _ hb)
def zLcK (g : TG) (tt : TT) (te : TE) (vs : List Nat) (σ : L2.St) (x : V) (H1 : Hp) (Q : VK) : Prop := ∃ d o kvs, x = .ref d ∧ H1 d = some (.frz o (.dT kvs)) ∧ zLc (Itkt d o kvs) g tt te vs σ H1 Q
theorem z_lcKS {t : TE} {vs : List Nat} (q : t σ H1 fun x H2 => zLcK g tt te vs σ x H2 Q) : tLc (iKeysT t) g tt te vs σ H1 Q := q
end
/-- all but lists and tables stands -/
def SameD (H H' : Hp) : Prop := ∀ a o, H a = some o → (∀ xs, o ≠ .lst xs) → (∀ t, o ≠ .dT t) → H' a = some o
theorem SameD.of {H H' : Hp} (s : Same H H') : SameD H H' := fun a o h _ _ => s a o h
theorem SameD.ofN {H H' : Hp} (s : SameN H H') : SameD H H' := fun a o h n _ => s a o h n
theorem SameD.put {H : Hp} {l : Addr} {t t' : List (Tk × V)} (h : H l = some (.dT t)) : SameD H (upd H l (.dT t')) := fun a o e _ n => by
  rw [upd_ne]
  · exact e
  · intro q
    rw [q, h] at e
    exact n t (Option.some.inj e).symm
theorem SameD.trans {H H1 H2 : Hp} (s : SameD H H1) (t : SameD H1 H2) : SameD H H2 := fun a o h n m => t a o (s a o h n m) n m
section
variable {α : Type} {σ : L2.St} {H1 : Hp} {Q : VK} {tk' tv : TE} {tt : TT} {g : TG} {f : α → V}
def zDc (J : It) (g : TG) (tt : TT) (tk tv : TE) (vs : List Nat) (σ : L2.St) (H1 : Hp) (Q : VK) : Prop := ∀ D, H1 D = none → ∃ W : Nat → Nat → Hp → Prop, (∃ m, W 0 m (upd H1 D (.dT []))) ∧ ∀ i m H2, W i m H2 →
  (J.stop i H2 ∧ Q (.ref D) H2) ∨ (J.go i H2 ∧ ∃ N : Hp → Prop, (∀ H3, N H3 → ∃ m', m' < m ∧ W (i + 1) m' H3) ∧ ∀ x H3, J.yld i H2 x H3 → g x (wipe σ vs) H3 fun σ2 H4 => wipe σ2 vs = wipe σ vs ∧ tt σ2 H4 fun b H5 =>
    if b = true then tk σ2 H5 fun y H6 => tv σ2 H6 fun z H7 => ∃ (kvs : List (Tk × V)) (k : Tk) (q : Addr), y = .ref q ∧ H7 q = some (.tup (k.map kV)) ∧ H7 D = some (.dT kvs) ∧ kvs.length < sizeLine ∧ N (upd H7 D (.dT (putK kvs k z))) else N H5)
theorem z_dcTS {K : Frag} {t : TE} {vs : List Nat} (q : t σ H1 fun x H2 => ∃ a, x = .ref a ∧ (∃ xs, SqT K H2 a xs) ∧ zDc (Itt K a) g tt tk' tv vs σ H2 Q) : tDcT (iTup K t) g tt tk' tv vs σ H1 Q := q
theorem z_dcPS {t : TE} {vs : List Nat} (q : t σ H1 fun x H2 => ∃ d o kvs, x = .ref d ∧ H2 d = some (.frz o (.dT kvs)) ∧ zDc (ItP d o kvs) g tt tk' tv vs σ H2 Q) : tDcT (iPairs t) g tt tk' tv vs σ H1 Q := q
/-- each turn puts one pair -/
theorem z_dcW {J : It} {n : Nat} {G : Hp → Prop} {Y : Nat → Hp → V → Hp → Prop} {vs : List Nat} (w : Walk J n G Y) (P : Nat → Hp → List (Ex × α) → Prop) (m : ∀ i H H' T, SameD H H' → P i H T → P i H' T) (hl : ∀ i H T, P i H T → T.length ≤ i) (hn : n ≤ 16777216) (h0 : ∀ H, P 0 H []) (hG : ∀ H', Same H1 H' → G H')
    (hs : ∀ k x H H' T (N : V → VK), k < n → Same H1 H → P k H T → Y k H x H' → (∀ e y q H4, Same H H4 → H4 q = some (.tup (e.map V.int)) → P (k + 1) H4 (ptT T e y) → N (.ref q) (f y) H4) →
      g x (wipe σ vs) H' fun σ2 H2 => wipe σ2 vs = wipe σ vs ∧ tk' σ2 H2 fun y H6 => tv σ2 H6 fun z H7 => N y z H7)
    (k : ∀ D H' T, H1 D = none → Same H1 H' → H' D = some (.dT (enT f T)) → P n H' T → Q (.ref D) H') : zDc J g tYes tk' tv vs σ H1 Q := fun D hD => by
  refine ⟨fun i mm H => mm = n - i ∧ i ≤ n ∧ Same H1 H ∧ ∃ T, H D = some (.dT (enT f T)) ∧ P i H T, ⟨n, by simp, Nat.zero_le _, Same.new hD, [], upd_same, h0 _⟩, ?_⟩
  rintro i mm H ⟨rfl, hi, s, T, hT, hp⟩
  have hg := hG H s
  by_cases lt : i < n
  · refine .inr ⟨w.goes i H lt hg, fun H' => Same H1 H' ∧ ∃ T, H' D = some (.dT (enT f T)) ∧ P (i + 1) H' T, fun H' p' => ⟨n - (i + 1), by omega, rfl, lt, p'⟩, fun x H' y => ?_⟩
    refine hs i x H H' T (fun y z H7 => ∃ (kvs : List (Tk × V)) (k : Tk) (q : Addr), y = .ref q ∧ H7 q = some (.tup (k.map kV)) ∧ H7 D = some (.dT kvs) ∧ kvs.length < sizeLine ∧ Same H1 (upd H7 D (.dT (putK kvs k z))) ∧ ∃ T, (upd H7 D (.dT (putK kvs k z))) D = some (.dT (enT f T)) ∧ P (i + 1) (upd H7 D (.dT (putK kvs k z))) T) lt s hp (w.yields i H x H' lt hg y) (fun e y q H4 s4 hq hp2 => ?_)
    refine ⟨enT f T, tk e, q, rfl, by rw [tk_kV]; exact hq, s4 _ _ hT, ?_, ?_, ptT T e y, ?_, ?_⟩
    · have := hl _ _ _ hp
      unfold enT
      rw [List.length_map, sizeLine_eq]
      omega
    · intro b o hb
      rw [upd_ne (ne_of_none hb hD)]
      exact s4 _ _ (s _ _ hb)
    · rw [put_en, upd_same]
    · exact m _ _ _ _ (SameD.put (s4 _ _ hT)) hp2
  · have e : i = n := by omega
    subst e
    exact .inl ⟨w.stops H hg, k D H T hD s hT hp⟩
end
end Z
set_option maxHeartbeats 4000000
namespace Z
open PySem PySem.Spec PyProof.Rows L2
section
variable {prog : Program} {w : World} {A : Around} {E : Value → Shared → Prop} {s : Shared} {l : Addr} {its : List Value} {ns : List Int} {Q : Value → Shared → Prop}
theorem sum_rawT (hh : A.handled = none) (hl : s.heap.IsTuple l its.toArray) (hi : IntsAre its ns)
    (h : ∀ h' tk t', (∀ b o, s.heap.get? b = some o → h'.get? b = some o) → Q (.int ns.sum t') { s with heap := h', toks := tk }) : wpAny (model prog w) A (call (.builtin "sum") [.ref l]) Q E s := by
  obtain ⟨xs, e⟩ := hi.allInts.items
  have hn : numsOf (intItems xs).toList = ns := by rw [← e]; exact hi.numsOf
  rw [nums_intItems] at hn
  rw [e] at hl
  have hlt : l < s.heap.objs.size := by obtain ⟨_, q, _⟩ := id hl; exact Heap.lt_size q
  have hne : l ≠ s.heap.objs.size := Nat.ne_of_lt hlt
  refine call_sum_walkG (wpAny_pyIter_tuple hl ?_)
  refine ⟨_, [_, l], [_], _, _, _, numAt xs, rfl, Walks.tuple (A := A.in1) hh s.heap.objs.size l hne (intItems xs), ⟨⟨_, Heap.get?_push_size _ rfl, rfl, rfl⟩, hl.at fun o q => Heap.get?_push_of_some _ q⟩, fun b hb => ?_, (fun _ _ => intItems_at), fun h' tk t' hk => ?_⟩
  · show b < (s.heap.push _).objs.size
    rw [Heap.size_push]
    rcases List.mem_cons.mp hb with rfl | hb
    · exact Nat.lt_succ_self _
    · rw [List.mem_singleton.mp hb]
      exact Nat.lt_succ_of_lt hlt
  · have := h h' tk t' fun b o q => hk b o (fun z => by
      rw [List.mem_singleton.mp z] at q
      exact absurd (Heap.lt_size q) (Nat.lt_irrefl _)) (Heap.get?_push_of_some _ q)
    have e2 : preSum (numAt xs) (intItems xs).size = ns.sum := by
      have : (intItems xs).size = xs.size := by simp [intItems]
      rw [this, preSum_eq, List.take_of_length_le (by simp), hn]
    rw [e2]
    exact this
end
def rSumS (K : Frag) : List V → Hp → VK → Prop := fun vs H Q => ∃ (a : Addr) (ns : List Int), vs = [V.ref a] ∧ (SqL K H a (ns.map V.int) ∨ SqT K H a (ns.map V.int)) ∧ Q (.int ns.sum) H
theorem cr_sumS {X : Cx} (hc : X.calm = true) : CallR X (.builtin "sum") (rSumS X.K) := by
  intro pins s σ H vs us Q I r h
  obtain ⟨a, ns, rfl, hs, q⟩ := h
  rcases hs with hs | hs
  · obtain ⟨its, rv, hl, _⟩ := I.list hs
    rw [Vals.ref1 r]
    exact sum_raw (I.ok.hd hc) hl.isList rv.ints fun h' tk t' hk => ⟨.int _, H, I.kept hk, ⟨_, rfl⟩, q⟩
  · obtain ⟨its, rv, hl, _⟩ := I.tuple hs
    rw [Vals.ref1 r]
    exact sum_rawT (I.ok.hd hc) hl rv.ints fun h' tk t' hk => ⟨.int _, H, I.kept hk, ⟨_, rfl⟩, q⟩
theorem z_sumT {K : Frag} {H : Hp} {Q : VK} {a : Addr} {ns : List Int} (h : H a = some (.tup (ns.map V.int))) (q : Q (.int ns.sum) H) : rSumS K [.ref a] H Q := ⟨a, ns, rfl, .inr (SqT.of h), q⟩
theorem z_maxL {K : Frag} {H : Hp} {Q : VK} {a : Addr} {ns : List Int} (h : H a = some (.lst (ns.map V.int))) (h0 : 0 < ns.length) (q : ∀ m, m ∈ ns → (∀ y, y ∈ ns → y ≤ m) → Q (.int m) H) : rMax K [.ref a] H Q := ⟨a, ns, rfl, SqL.of h, h0, q⟩
end Z
set_option maxHeartbeats 4000000
namespace S31
/-- the number at a place -/
def cf (xs : List Int) (k : Nat) : Int := xs.getD k 0
def tp (f : Nat → Int) : Nat → Int := fun k => (if k = 0 then 0 else f (k - 1)) + f k
def tpn (f : Nat → Int) : Nat → Nat → Int
  | 0 => f
  | n + 1 => tp (tpn f n)
theorem cf_out {xs : List Int} {k : Nat} (h : xs.length ≤ k) : cf xs k = 0 := by simp [cf, List.getD_eq_getElem?_getD, h]
theorem cf_in {xs : List Int} {k : Nat} (h : k < xs.length) : cf xs k = xs[k] := by simp [cf, List.getD_eq_getElem?_getD, h]
theorem cf_map {xs : List Int} {g : Int → Int} {k : Nat} (g0 : g 0 = 0) : cf (xs.map g) k = g (cf xs k) := by
  by_cases h : k < xs.length
  · rw [cf_in h, cf_in (by simpa using h), List.getElem_map]
  · rw [cf_out (xs := xs) (by omega), cf_out (by rw [List.length_map]; omega), g0]
/-- the common divisor -/
def gl (c : Int) (ns : List Int) : Int := ns.foldl (fun c n => ((Int.gcd c n : Nat) : Int)) c
theorem gl_pos {c : Int} (hc : 0 < c) : ∀ ns : List Int, 0 < gl c ns ∧ gl c ns ≤ c ∧ gl c ns ∣ c ∧ ∀ n ∈ ns, gl c ns ∣ n := by
  intro ns
  induction ns generalizing c with
  | nil => exact ⟨hc, Int.le_refl _, Int.dvd_refl _, fun n h => by cases h⟩
  | cons x xs ih =>
    have g0 : 0 < ((Int.gcd c x : Nat) : Int) := by
      have := Int.gcd_pos_of_ne_zero_left x (show c ≠ 0 by omega)
      omega
    obtain ⟨i1, i2, i3, i4⟩ := ih g0
    have d1 : ((Int.gcd c x : Nat) : Int) ∣ c := Int.gcd_dvd_left ..
    have d2 : ((Int.gcd c x : Nat) : Int) ∣ x := Int.gcd_dvd_right ..
    have le := Int.le_of_dvd hc d1
    refine ⟨i1, Int.le_trans i2 le, Int.dvd_trans i3 d1, fun n h => ?_⟩
    rcases List.mem_cons.mp h with rfl | h
    · exact Int.dvd_trans i3 d2
    · exact i4 n h
end S31
set_option maxHeartbeats 4000000
namespace S31
def cv (f g : Nat → Int) (m : Nat) : Nat → Int
  | 0 => 0
  | J + 1 => cv f g m J + (if J ≤ m then f J * g (m - J) else 0)
/-- the value at x of the first N places -/
def E (f : Nat → Int) (x : Rat) : Nat → Rat
  | 0 => 0
  | N + 1 => E f x N + (f N : Rat) * x ^ N
def sh (f : Nat → Int) : Nat → Int := fun k => if k = 0 then 0 else f (k - 1)
def pb : Nat → Nat → Int := tpn fun k => if k = 0 then 1 else 0
theorem pb_succ {N k : Nat} : pb (N + 1) k = (if k = 0 then 0 else pb N (k - 1)) + pb N k := rfl
theorem pb_nonneg : ∀ N k, 0 ≤ pb N k
  | 0, k => by
    show 0 ≤ (if k = 0 then (1 : Int) else 0)
    split <;> decide
  | N + 1, k => by
    rw [pb_succ]
    have h1 := pb_nonneg N k
    have h2 := pb_nonneg N (k - 1)
    split <;> omega
theorem pb_pos : ∀ N k, k ≤ N → 0 < pb N k
  | 0, k, h => by
    have : k = 0 := by omega
    subst this
    decide
  | N + 1, k, h => by
    rw [pb_succ]
    by_cases c : k ≤ N
    · have h1 := pb_pos N k c
      have h2 := pb_nonneg N (k - 1)
      split <;> omega
    · have e : k = N + 1 := by omega
      subst e
      rw [if_neg (by omega), Nat.add_sub_cancel]
      have h1 := pb_pos N N (Nat.le_refl _)
      have h2 := pb_nonneg N (N + 1)
      omega
theorem pb_out : ∀ N k, N < k → pb N k = 0
  | 0, k, h => if_neg (by omega)
  | N + 1, k, h => by
    rw [pb_succ, if_neg (by omega), pb_out N k (by omega), pb_out N (k - 1) (by omega)]
    rfl
def ee (m N k : Int) : Int := m * N * (N - 1) - 4 * (m - 1) * k * (N - k)
end S31
set_option maxHeartbeats 4000000
namespace S30
abbrev Sq := Nat → Rat
def sft (c : Sq) : Sq := fun k => c (k + 1)
/-- sum of pb i k * c k: the i-th row of the sums of neighbours -/
def T : Nat → Sq → Rat
  | 0, c => c 0
  | i + 1, c => T i c + T i (sft c)
/-- the mean -/
def U : Nat → Sq → Rat
  | 0, c => c 0
  | i + 1, c => (U i c + U i (sft c)) / 2
/-- sum of pb d k * c k * u^k * v^(d-k) -/
def G (u v : Rat) : Nat → Sq → Rat
  | 0, c => c 0
  | d + 1, c => v * G u v d c + u * G u v d (sft c)
theorem T_congr {i : Nat} : ∀ {c e : Sq}, (∀ k, k ≤ i → c k = e k) → T i c = T i e := by
  induction i with
  | zero => intro c e h; exact h 0 (Nat.le_refl _)
  | succ i ih =>
    intro c e h
    show T i c + T i (sft c) = T i e + T i (sft e)
    rw [ih fun k hk => h k (by omega), ih (c := sft c) (e := sft e) fun k hk => h (k + 1) (by omega)]
/-- the corner numbers -/
def be (c : Sq) : Sq := fun i => T i c
/-- the value at x of the first N numbers -/
def E (f : Sq) (x : Rat) : Nat → Rat
  | 0 => 0
  | N + 1 => E f x N + f N * x ^ N
def ab (q : Rat) : Rat := if 0 ≤ q then q else -q
end S30
set_option maxHeartbeats 4000000
namespace S30
open S31 (pb pb_succ pb_out pb_pos)
/-- with Pascal's row in front -/
def pw (d : Nat) (c : Sq) : Sq := fun k => (pb d k : Rat) * c k
def rv (d : Nat) (c : Sq) : Sq := fun k => c (d - k)
/-- the numbers a with values A: divided by Pascal's row -/
def dv (d : Nat) (a : Sq) : Sq := fun k => a k / (pb d k : Rat)
/-- the corner numbers of the polynomial with the numbers a -/
def cn (d : Nat) (a : Sq) : Sq := be (dv d a)
end S30
set_option maxHeartbeats 4000000
namespace S30
open S31 (pb pb_succ pb_out pb_pos cf)
theorem cn_congr {d : Nat} {a b : Sq} (h : ∀ k, k ≤ d → a k = b k) {i : Nat} (hi : i ≤ d) : cn d a i = cn d b i := T_congr fun k hk => by
  show a k / _ = b k / _
  rw [h k (by omega)]
def D2 (c : Sq) : Sq := fun k => (c k + -2 * c (k + 1)) + c (k + 2)
end S30
set_option maxHeartbeats 4000000
namespace S30
open S31 (cf cf_in cf_out cf_map gl gl_pos)
/-- a common factor and zeros at the end left out -/
structure LowT (ns : List Int) (o : Int) (ls : List Int) (o' : Int) : Prop where
  len : ls.length ≤ ns.length
  ex : ∃ c : Int, 0 < c ∧ (∀ k, cf ns k = c * cf ls k) ∧ o = c * o'
  top : ∀ n, ls.length = n + 1 → cf ls n ≠ 0
  cop : ∀ d : Int, d ∣ o' → (∀ k, d ∣ cf ls k) → d ∣ 1
theorem LowT.pos {ns ls : List Int} {o o' : Int} (h : LowT ns o ls o') (ho : 0 < o) : 0 < o' := by
  obtain ⟨c, c0, _, e⟩ := h.ex
  rw [e] at ho
  by_cases q : 0 < o'
  · exact q
  · have : c * o' ≤ 0 := Int.mul_nonpos_of_nonneg_of_nonpos (by omega) (by omega)
    omega
theorem LowT.nil {ns ls : List Int} {o o' : Int} (h : LowT ns o ls o') (hn : ns.length = 0) : ls = [] := List.eq_nil_of_length_eq_zero (by have := h.len; omega)
theorem LowT.abs {ns ls : List Int} {o o' : Int} (h : LowT ns o ls o') (k : Nat) : (cf ls k).natAbs ≤ (cf ns k).natAbs := by
  obtain ⟨c, c0, e1, e2⟩ := h.ex
  rw [e1, Int.natAbs_mul]
  exact Nat.le_mul_of_pos_left _ (by omega)
end S30
set_option maxHeartbeats 4000000
namespace S66
/-- the value at k -/
def qv (a b c k : Int) : Int := a + k * (b + k * c)
/-- the greatest n with q not below zero from start to n, by halving -/
structure Fall (a b c start L : Int) : Prop where
  s : start ≤ L
  v : 0 ≤ qv a b c L
  f : qv a b c (L + 1) < 0
/-- concave: the fall is one -/
theorem Fall.uniq {a b c start L M : Int} (hc : c ≤ 0) (h : Fall a b c start L) (g : Fall a b c start M) (h0 : 0 ≤ qv a b c start) : L = M := by
  have key : ∀ {L M : Int}, start ≤ L → qv a b c (L + 1) < 0 → 0 ≤ qv a b c M → M ≤ L := fun {L M} h1 h2 h3 => by
    refine Int.not_lt.mp fun z => ?_
    -- L + 1 between start and M
    have c1 : (qv a b c (L + 1) : Int) * (M - start) ≥ qv a b c start * (M - (L + 1)) + qv a b c M * (L + 1 - start) := by
      have : qv a b c (L + 1) * (M - start) - (qv a b c start * (M - (L + 1)) + qv a b c M * (L + 1 - start)) = -c * ((M - (L + 1)) * (L + 1 - start) * (M - start)) := by
        unfold qv
        grind
      have p : 0 ≤ -c * ((M - (L + 1)) * (L + 1 - start) * (M - start)) := Int.mul_nonneg (by omega) (Int.mul_nonneg (Int.mul_nonneg (by omega) (by omega)) (by omega))
      omega
    have c2 : qv a b c (L + 1) * (M - start) < 0 := Int.mul_neg_of_neg_of_pos h2 (by omega)
    have c3 : 0 ≤ qv a b c start * (M - (L + 1)) := Int.mul_nonneg h0 (by omega)
    have c4 : 0 ≤ qv a b c M * (L + 1 - start) := Int.mul_nonneg h3 (by omega)
    omega
  have a1 := key h.s h.f g.v
  have a2 := key g.s g.f h.v
  omega
/-- at or before the lesser root -/
def LowAt (a b c k : Int) : Prop := 2 * c * k + b < 0 ∧ b * b - 4 * c * a ≤ (2 * c * k + b) * (2 * c * k + b)
/-- what both tell: the greatest n with q not below zero from start to n -/
inductive Lst (a b c start : Int) : Option Int → Prop
  | no0 : c = 0 → 0 ≤ b → Lst a b c start none
  | noP : 0 < c → b * b - 4 * c * a ≤ 0 ∨ -b ≤ 2 * c * start → Lst a b c start none
  | one (n : Int) : c < 0 ∨ (c = 0 ∧ b < 0) → Fall a b c start n → Lst a b c start (some n)
  | low (n : Int) : 0 < c → 0 < b * b - 4 * c * a → 2 * c * start < -b → (∀ k, k ≤ n ↔ LowAt a b c k) → Lst a b c start (some n)
theorem Lst.uniq {a b c start : Int} {r r' : Option Int} (h0 : 0 ≤ qv a b c start) (h : Lst a b c start r) (g : Lst a b c start r') : r = r' := by
  cases h with
  | no0 h1 h2 => cases g with
    | no0 => rfl
    | noP => rfl
    | one n g1 g2 => omega
    | low n g1 => omega
  | noP h1 h2 => cases g with
    | no0 => rfl
    | noP => rfl
    | one n g1 g2 => omega
    | low n g1 g2 g3 => omega
  | one n h1 h2 => cases g with
    | no0 g1 g2 => omega
    | noP g1 g2 => omega
    | one m g1 g2 => rw [Fall.uniq (by omega) h2 g2 h0]
    | low n g1 g2 g3 => omega
  | low n h1 h2 h3 h4 => cases g with
    | no0 g1 g2 => omega
    | noP g1 g2 => omega
    | one m g1 g2 => omega
    | low m g1 g2 g3 g4 =>
      have e1 := (g4 n).mpr ((h4 n).mp (Int.le_refl _))
      have e2 := (h4 m).mpr ((g4 m).mp (Int.le_refl _))
      rw [show n = m by omega]
end S66
set_option maxHeartbeats 4000000
namespace S66
/-- the greatest n with q not below zero at 1 .. n -/
inductive Gr (a b c : Int) : Option Int → Prop
  | no : (∀ k, 1 ≤ k → 0 ≤ qv a b c k) → Gr a b c none
  | one (n : Int) : 0 ≤ n → (∀ k, 1 ≤ k → k ≤ n → 0 ≤ qv a b c k) → qv a b c (n + 1) < 0 → Gr a b c (some n)
theorem Gr.uniq {a b c : Int} {r r' : Option Int} (h : Gr a b c r) (g : Gr a b c r') : r = r' := by
  cases h with
  | no h1 => cases g with
    | no => rfl
    | one n g1 g2 g3 =>
      have := h1 (n + 1) (by omega)
      omega
  | one n h1 h2 h3 => cases g with
    | no g1 =>
      have := g1 (n + 1) (by omega)
      omega
    | one m g1 g2 g3 =>
      rcases Int.lt_trichotomy n m with z | rfl | z
      · have := g2 (n + 1) (by omega) (by omega)
        omega
      · rfl
      · have := h2 (m + 1) (by omega) (by omega)
        omega
end S66
set_option maxHeartbeats 4000000
set_option maxHeartbeats 4000000
set_option maxHeartbeats 4000000
set_option maxHeartbeats 4000000
set_option maxHeartbeats 4000000
namespace S15
open Z
/-- the sum of all entries with the key k -/
def vl : List (Ex × Int) → Ex → Int
  | [], _ => 0
  | p :: r, k => (if p.1 = k then p.2 else 0) + vl r k
theorem vl_app {a b : List (Ex × Int)} {k : Ex} : vl (a ++ b) k = vl a k + vl b k := by
  induction a with
  | nil => simp [vl]
  | cons p r ih =>
    rw [List.cons_append, vl, vl, ih]
    omega
theorem vl_lk : ∀ {T : List (Ex × Int)} {k : Ex}, Nd T → vl T k = (lkT T k).getD 0
  | [], k, _ => rfl
  | p :: r, k, nd => by
    have nd2 := List.nodup_cons.mp (show (p.1 :: r.map (·.1)).Nodup from nd)
    rw [vl, vl_lk (T := r) nd2.2]
    by_cases h : p.1 = k
    · rw [if_pos h, lkT_pos h]
      have : lkT r k = none := lkT_none.mpr fun q mq e => nd2.1 (by rw [h, ← e]; exact List.mem_map_of_mem mq)
      rw [this]
      simp
    · rw [if_neg h, lkT_neg h]
      omega
theorem vl_pt {T : List (Ex × Int)} {e k : Ex} {x : Int} (nd : Nd T) : vl (ptT T e x) k = if k = e then x else vl T k := by
  rw [vl_lk (nd_pt nd), vl_lk nd, lk_pt]
  split <;> rfl
/-- sums over a list of entries -/
def sw (φ : Ex → Int) : List (Ex × Int) → Int
  | [] => 0
  | p :: r => p.2 * φ p.1 + sw φ r
theorem sw_app {φ : Ex → Int} {a b : List (Ex × Int)} : sw φ (a ++ b) = sw φ a + sw φ b := by
  induction a with
  | nil => simp [sw]
  | cons p r ih =>
    rw [List.cons_append, sw, sw, ih]
    omega
theorem sw_split (φ : Ex → Int) (e : Ex) : ∀ L : List (Ex × Int), sw φ L = vl L e * φ e + sw φ (L.filter fun p => decide (p.1 ≠ e))
  | [] => by simp [sw, vl]
  | p :: r => by
    have ih := sw_split φ e r
    by_cases h : p.1 = e
    · rw [List.filter_cons_of_neg (by simp [h]), sw, vl, if_pos h, ih, h]
      grind
    · rw [List.filter_cons_of_pos (by simp [h]), sw, vl, if_neg h, sw, ih]
      grind
theorem vl_filter {e k : Ex} : ∀ L : List (Ex × Int), vl (L.filter fun p => decide (p.1 ≠ e)) k = if k = e then 0 else vl L k
  | [] => by simp [vl]
  | p :: r => by
    have ih := vl_filter (e := e) (k := k) r
    by_cases h : p.1 = e
    · rw [List.filter_cons_of_neg (by simp [h]), vl, ih]
      by_cases q : k = e
      · rw [if_pos q, if_pos q]
      · rw [if_neg q, if_neg q, if_neg (fun z => q (by rw [← z, h]))]
        omega
    · rw [List.filter_cons_of_pos (by simp [h]), vl, vl, ih]
      by_cases q : k = e
      · rw [if_pos q, if_pos q, if_neg (fun z => h (by rw [z, q]))]
        omega
      · rw [if_neg q, if_neg q]
theorem sw_zero (φ : Ex → Int) : ∀ (n : Nat) (L : List (Ex × Int)), L.length ≤ n → (∀ k, vl L k = 0) → sw φ L = 0
  | _, [], _, _ => rfl
  | 0, p :: r, h, _ => by simp at h
  | n + 1, p :: r, h, z => by
    rw [sw_split φ p.1, z, sw_zero φ n _ ?_ fun k => ?_]
    · simp
    · rw [List.filter_cons_of_neg (by simp)]
      have := List.length_filter_le (fun q : Ex × Int => decide (q.1 ≠ p.1)) r
      simp at h
      omega
    · rw [vl_filter, z]
      split <;> rfl
def neg (L : List (Ex × Int)) : List (Ex × Int) := L.map fun p => (p.1, -p.2)
theorem vl_neg {k : Ex} : ∀ L : List (Ex × Int), vl (neg L) k = -vl L k
  | [] => rfl
  | p :: r => by
    show (if p.1 = k then -p.2 else 0) + vl (neg r) k = _
    rw [vl_neg r, vl]
    split <;> omega
theorem sw_neg {φ : Ex → Int} : ∀ L : List (Ex × Int), sw φ (neg L) = -sw φ L
  | [] => rfl
  | p :: r => by
    show -p.2 * φ p.1 + sw φ (neg r) = _
    rw [sw_neg r, sw, Int.neg_mul]
    omega
/-- a sum depends on the values alone -/
theorem sw_ext {φ : Ex → Int} {L M : List (Ex × Int)} (h : ∀ k, vl L k = vl M k) : sw φ L = sw φ M := by
  have := sw_zero φ _ (L ++ neg M) (Nat.le_refl _) fun k => by
    rw [vl_app, vl_neg, h]
    omega
  rw [sw_app, sw_neg] at this
  omega
theorem sw_fn {φ ψ : Ex → Int} : ∀ {L : List (Ex × Int)}, (∀ p, p ∈ L → φ p.1 = ψ p.1) → sw φ L = sw ψ L
  | [], _ => rfl
  | p :: r, h => by
    rw [sw, sw, h p List.mem_cons_self, sw_fn fun q m => h q (List.mem_cons_of_mem _ m)]
def scl (w : Int) (L : List (Ex × Int)) : List (Ex × Int) := L.map fun p => (p.1, w * p.2)
theorem vl_scl {w : Int} {k : Ex} : ∀ L : List (Ex × Int), vl (scl w L) k = w * vl L k
  | [] => by simp [vl, scl]
  | p :: r => by
    show (if p.1 = k then w * p.2 else 0) + vl (scl w r) k = _
    rw [vl_scl r, vl]
    split <;> grind
theorem sw_scl {φ : Ex → Int} {w : Int} : ∀ L : List (Ex × Int), sw φ (scl w L) = w * sw φ L
  | [] => by simp [sw, scl]
  | p :: r => by
    show w * p.2 * φ p.1 + sw φ (scl w r) = _
    rw [sw_scl r, sw]
    grind
theorem sw_mul {φ : Ex → Int} {w : Int} : ∀ L : List (Ex × Int), sw (fun e => w * φ e) L = w * sw φ L
  | [] => by simp [sw]
  | p :: r => by
    rw [sw, sw, sw_mul r]
    grind
/-- exponents added -/
def ad (a b : Ex) : Ex := List.zipWith (· + ·) a b
/-- the product's value at k -/
def cv (L M : List (Ex × Int)) (k : Ex) : Int := sw (fun e => sw (fun f => if ad e f = k then 1 else 0) M) L
theorem cv_ext {L L' M M' : List (Ex × Int)} {k : Ex} (h : ∀ k, vl L k = vl L' k) (h2 : ∀ k, vl M k = vl M' k) : cv L M k = cv L' M' k := by
  unfold cv
  rw [sw_ext h]
  exact sw_fn fun p _ => sw_ext h2
theorem cv_scl {L M : List (Ex × Int)} {w v : Int} {k : Ex} : cv (scl w L) (scl v M) k = w * v * cv L M k := by
  unfold cv
  rw [sw_scl]
  have : (fun e => sw (fun f => if ad e f = k then 1 else 0) (scl v M)) = fun e => v * sw (fun f => if ad e f = k then 1 else 0) M := by
    funext e
    rw [sw_scl]
  rw [this, sw_mul]
  grind
/-- the numbers of exponents all n -/
def Sh (n : Nat) (e : Ex) : Prop := e.length = n ∧ ∀ x, x ∈ e → 0 ≤ x
def Ln (n : Nat) (L : List (Ex × Int)) : Prop := ∀ p, p ∈ L → Sh n p.1
/-- F is told by the list -/
def Rp (n : Nat) (L : List (Ex × Int)) (F : Ex → Int) : Prop := (∀ k, vl L k = F k) ∧ Ln n L
def hp (h : Int) (F : Ex → Int) : Ex → Int := fun e => if e.sum = h then F e else 0
def hpl (h : Int) (L : List (Ex × Int)) : List (Ex × Int) := L.filter fun p => decide (p.1.sum = h)
theorem vl_hpl {h : Int} {k : Ex} : ∀ L : List (Ex × Int), vl (hpl h L) k = if k.sum = h then vl L k else 0
  | [] => by simp [vl, hpl]
  | p :: r => by
    have ih := vl_hpl (h := h) (k := k) r
    unfold hpl at ih ⊢
    by_cases c : p.1.sum = h
    · rw [List.filter_cons_of_pos (by simp [c]), vl, vl, ih]
      by_cases q : p.1 = k
      · rw [if_pos q, ← q, if_pos c, if_pos c]
      · rw [if_neg q]
        split <;> omega
    · rw [List.filter_cons_of_neg (by simp [c]), vl, ih]
      by_cases q : p.1 = k
      · rw [if_pos q, ← q, if_neg c, if_neg c]
      · rw [if_neg q]
        split <;> omega
theorem vl_none {k : Ex} : ∀ {L : List (Ex × Int)}, (∀ p, p ∈ L → p.1 ≠ k) → vl L k = 0
  | [], _ => rfl
  | p :: r, h => by
    rw [vl, if_neg (h p List.mem_cons_self), vl_none fun q m => h q (List.mem_cons_of_mem _ m)]
    rfl
theorem Rp.hp {n : Nat} {L : List (Ex × Int)} {F : Ex → Int} {h : Int} (r : Rp n L F) : Rp n (hpl h L) (hp h F) := by
  refine ⟨fun k => ?_, fun p m => r.2 p ((List.mem_filter.mp m).1)⟩
  rw [vl_hpl, r.1]
  rfl
theorem ad_sum : ∀ {a b : Ex}, a.length = b.length → (ad a b).sum = a.sum + b.sum
  | [], [], _ => rfl
  | x :: a, y :: b, h => by
    have ih := ad_sum (a := a) (b := b) (by simpa using h)
    show (x + y + (ad a b).sum) = _
    rw [ih, List.sum_cons, List.sum_cons]
    omega
  | [], _ :: _, h => by simp at h
  | _ :: _, [], h => by simp at h
theorem ad_len {a b : Ex} (h : a.length = b.length) : (ad a b).length = a.length := by
  unfold ad
  rw [List.length_zipWith, h, Nat.min_self]
/-- a list whose values are F's, no value of it nought -/
theorem clean {n : Nat} {L : List (Ex × Int)} {F : Ex → Int} (r : Rp n L F) : ∃ M, Rp n M F ∧ ∀ p, p ∈ M → F p.1 ≠ 0 := by
  refine ⟨L.filter fun p => decide (F p.1 ≠ 0), ⟨fun k => ?_, fun p m => r.2 p ((List.mem_filter.mp m).1)⟩, fun p m => of_decide_eq_true (List.mem_filter.mp m).2⟩
  by_cases h : F k = 0
  · rw [h]
    refine vl_none fun p m e => ?_
    have := of_decide_eq_true (List.mem_filter.mp m).2
    rw [e] at this
    exact this h
  · rw [← r.1 k]
    have : ∀ L : List (Ex × Int), vl (L.filter fun p => decide (F p.1 ≠ 0)) k = vl L k := by
      intro L
      induction L with
      | nil => rfl
      | cons p s ih =>
        by_cases c : F p.1 = 0
        · rw [List.filter_cons_of_neg (by simp [c]), ih, vl, if_neg (fun e => h (by rw [← e]; exact c))]
          omega
        · rw [List.filter_cons_of_pos (by simp [c]), vl, vl, ih]
    exact this L
/-- F's entries are of degree d or less -/
def Le (F : Ex → Int) (d : Int) : Prop := ∀ e, F e ≠ 0 → e.sum ≤ d
theorem sw_all0 {φ : Ex → Int} : ∀ {L : List (Ex × Int)}, (∀ p, p ∈ L → φ p.1 = 0) → sw φ L = 0
  | [], _ => rfl
  | p :: r, h => by
    rw [sw, h p List.mem_cons_self, sw_all0 fun q m => h q (List.mem_cons_of_mem _ m)]
    simp
theorem sw_filter {φ : Ex → Int} {c : Ex × Int → Bool} : ∀ {L : List (Ex × Int)}, (∀ p, p ∈ L → c p = false → φ p.1 = 0) → sw φ (L.filter c) = sw φ L
  | [], _ => rfl
  | p :: r, h => by
    have ih := sw_filter (φ := φ) (c := c) (L := r) fun q m => h q (List.mem_cons_of_mem _ m)
    by_cases b : c p = true
    · rw [List.filter_cons_of_pos b, sw, sw, ih]
    · have b2 : c p = false := by simpa using b
      rw [List.filter_cons_of_neg b, ih, sw, h p List.mem_cons_self b2]
      simp
/-- the product's part of degree 2h is the product of the parts of degree h -/
theorem cv_top {n : Nat} {L : List (Ex × Int)} {F : Ex → Int} {h : Int} (r : Rp n L F) (d : Le F h) (k : Ex) (hk : k.sum = h + h) : cv L L k = cv (hpl h L) (hpl h L) k := by
  obtain ⟨M, rM, nz⟩ := clean r
  have e1 : ∀ k, vl L k = vl M k := fun k => by rw [r.1, rM.1]
  have e2 : ∀ k, vl (hpl h L) k = vl (hpl h M) k := fun k => by rw [vl_hpl, vl_hpl, e1]
  rw [cv_ext e1 e1, cv_ext e2 e2]
  have up : ∀ p, p ∈ M → p.1.sum ≤ h := fun p m => d _ (nz p m)
  have inner : ∀ p, p ∈ M → sw (fun f => if ad p.1 f = k then 1 else 0) (hpl h M) = sw (fun f => if ad p.1 f = k then 1 else 0) M := fun p m => by
    unfold hpl
    refine sw_filter fun q mq c => ?_
    have c2 : q.1.sum ≠ h := of_decide_eq_false c
    refine if_neg fun z => ?_
    have := ad_sum (a := p.1) (b := q.1) (by rw [(rM.2 p m).1, (rM.2 q mq).1])
    rw [z, hk] at this
    have := up p m
    have := up q mq
    omega
  unfold cv
  have s1 : sw (fun e => sw (fun f => if ad e f = k then 1 else 0) (hpl h M)) (hpl h M) = sw (fun e => sw (fun f => if ad e f = k then 1 else 0) M) (hpl h M) :=
    sw_fn fun p m => inner p ((List.mem_filter.mp m).1)
  rw [s1]
  unfold hpl
  refine (sw_filter fun p m c => ?_).symm
  have c2 : p.1.sum ≠ h := of_decide_eq_false c
  refine sw_all0 fun q mq => if_neg fun z => ?_
  have := ad_sum (a := p.1) (b := q.1) (by rw [(rM.2 p m).1, (rM.2 q mq).1])
  rw [z, hk] at this
  have := up p m
  have := up q mq
  omega
theorem cv_le {n : Nat} {L : List (Ex × Int)} {F : Ex → Int} {h : Int} (r : Rp n L F) (d : Le F h) {k : Ex} (hk : cv L L k ≠ 0) : k.sum ≤ h + h := by
  obtain ⟨M, rM, nz⟩ := clean r
  have e1 : ∀ k, vl L k = vl M k := fun k => by rw [r.1, rM.1]
  rw [cv_ext e1 e1] at hk
  refine Int.not_lt.mp fun lt => hk ?_
  unfold cv
  refine sw_all0 fun p m => sw_all0 fun q mq => if_neg fun z => ?_
  have := ad_sum (a := p.1) (b := q.1) (by rw [(rM.2 p m).1, (rM.2 q mq).1])
  rw [z] at this
  have := d _ (nz p m)
  have := d _ (nz q mq)
  omega
theorem lt_ad : ∀ {a b c d : Ex}, a.length = b.length → a.length = c.length → a.length = d.length → ¬ c < a → ¬ d < b → ad a b = ad c d → a = c ∧ b = d
  | [], [], [], [], _, _, _, _, _, _ => ⟨rfl, rfl⟩
  | x :: a, y :: b, z :: c, w :: d, h1, h2, h3, h4, h5, e => by
    have e1 : x + y = z + w ∧ ad a b = ad c d := by
      have e' : (x + y) :: ad a b = (z + w) :: ad c d := e
      injection e' with e1 e2
      exact ⟨e1, e2⟩
    have k1 : ¬ z < x := fun q => h4 (List.cons_lt_cons_iff.mpr (.inl q))
    have k2 : ¬ w < y := fun q => h5 (List.cons_lt_cons_iff.mpr (.inl q))
    have ex : x = z := by omega
    have ey : y = w := by omega
    have := lt_ad (a := a) (b := b) (c := c) (d := d) (by simpa using h1) (by simpa using h2) (by simpa using h3) (fun q => h4 (List.cons_lt_cons_iff.mpr (.inr ⟨ex.symm, q⟩))) (fun q => h5 (List.cons_lt_cons_iff.mpr (.inr ⟨ey.symm, q⟩))) e1.2
    rw [ex, ey, this.1, this.2]
    exact ⟨rfl, rfl⟩
/-- at twice the greatest exponents the square has the square's value -/
theorem cv_corner {n : Nat} {L : List (Ex × Int)} {F : Ex → Int} {e : Ex} (r : Rp n L F) (he : e.length = n) (top : ∀ f, F f ≠ 0 → ¬ e < f) : cv L L (ad e e) = F e * F e := by
  obtain ⟨M, rM, nz⟩ := clean r
  have e1 : ∀ k, vl L k = vl M k := fun k => by rw [r.1, rM.1]
  rw [cv_ext e1 e1]
  have one : ∀ p, p ∈ M → sw (fun f => if ad p.1 f = ad e e then 1 else 0) M = if p.1 = e then F e else 0 := fun p m => by
    by_cases c : p.1 = e
    · rw [if_pos c, sw_split _ e]
      have z : sw (fun f => if ad p.1 f = ad e e then 1 else 0) (M.filter fun q => decide (q.1 ≠ e)) = 0 := by
        refine sw_all0 fun q mq => if_neg fun z => ?_
        have mq2 := List.mem_filter.mp mq
        have := lt_ad (a := p.1) (b := q.1) (c := e) (d := e) (by rw [(rM.2 p m).1, (rM.2 q mq2.1).1]) (by rw [(rM.2 p m).1, he]) (by rw [(rM.2 p m).1, he]) (top _ (nz p m)) (top _ (nz q mq2.1)) z
        exact of_decide_eq_true mq2.2 this.2
      rw [z, c, if_pos rfl, rM.1]
      omega
    · rw [if_neg c]
      refine sw_all0 fun q mq => if_neg fun z => c ?_
      exact (lt_ad (a := p.1) (b := q.1) (c := e) (d := e) (by rw [(rM.2 p m).1, (rM.2 q mq).1]) (by rw [(rM.2 p m).1, he]) (by rw [(rM.2 p m).1, he]) (top _ (nz p m)) (top _ (nz q mq)) z).1
  unfold cv
  rw [sw_fn (ψ := fun g => if g = e then F e else 0) one, sw_split _ e]
  have z : sw (fun g => if g = e then F e else 0) (M.filter fun q => decide (q.1 ≠ e)) = 0 := sw_all0 fun q mq => if_neg (of_decide_eq_true (List.mem_filter.mp mq).2)
  rw [z, if_pos rfl, rM.1]
  omega
theorem cv_at {L M : List (Ex × Int)} {k : Ex} (h : cv L M k ≠ 0) : ∃ p q, p ∈ L ∧ q ∈ M ∧ ad p.1 q.1 = k := by
  refine Classical.byContradiction fun c => h ?_
  unfold cv
  exact sw_all0 fun p m => sw_all0 fun q mq => if_neg fun z => c ⟨p, q, m, mq, z⟩
theorem ad_nn : ∀ {a b : Ex}, (∀ x, x ∈ a → 0 ≤ x) → (∀ x, x ∈ b → 0 ≤ x) → ∀ x, x ∈ ad a b → 0 ≤ x
  | [], _, _, _, x, h => by simp [ad] at h
  | _ :: _, [], _, _, x, h => by simp [ad] at h
  | u :: a, v :: b, h1, h2, x, h => by
    rcases List.mem_cons.mp (show x ∈ (u + v) :: ad a b from h) with e | m
    · have := h1 u List.mem_cons_self
      have := h2 v List.mem_cons_self
      omega
    · exact ad_nn (fun x m => h1 x (List.mem_cons_of_mem _ m)) (fun x m => h2 x (List.mem_cons_of_mem _ m)) x m
theorem Sh.ad {n : Nat} {a b : Ex} (h1 : Sh n a) (h2 : Sh n b) : Sh n (ad a b) := ⟨by rw [ad_len (by rw [h1.1, h2.1]), h1.1], ad_nn h1.2 h2.2⟩
theorem cv_hom {n : Nat} {L : List (Ex × Int)} {h : Int} {k : Ex} (hL : Ln n L) (hk : k.sum ≠ h + h) : cv (hpl h L) (hpl h L) k = 0 := by
  refine Classical.byContradiction fun c => hk ?_
  obtain ⟨p, q, m, mq, e⟩ := cv_at c
  have m2 := List.mem_filter.mp m
  have q2 := List.mem_filter.mp mq
  rw [← e, ad_sum (by rw [(hL p m2.1).1, (hL q q2.1).1]), of_decide_eq_true m2.2, of_decide_eq_true q2.2]
theorem sum_nn : ∀ {e : Ex}, (∀ x, x ∈ e → 0 ≤ x) → 0 ≤ e.sum
  | [], _ => by simp
  | x :: r, h => by
    have := h x List.mem_cons_self
    have := sum_nn fun y m => h y (List.mem_cons_of_mem _ m)
    rw [List.sum_cons]
    omega
def tot (W : Nat → Int) (L : Nat → List (Ex × Int)) : Nat → Ex → Int
  | 0, _ => 0
  | c + 1, e => tot W L c e + W c * cv (L c) (L c) e
theorem tot_top {n : Nat} {W : Nat → Int} {L : Nat → List (Ex × Int)} {F : Nat → Ex → Int} {h : Int} : ∀ c, (∀ k, k < c → Rp n (L k) (F k) ∧ Le (F k) h) → ∀ e, hp (h + h) (tot W L c) e = tot W (fun k => hpl h (L k)) c e
  | 0, _, e => by
    unfold hp
    split <;> rfl
  | c + 1, H, e => by
    have ih := tot_top (W := W) c (fun k l => H k (by omega)) e
    obtain ⟨r, d⟩ := H c (by omega)
    unfold hp at ih ⊢
    show (if e.sum = h + h then tot W L c e + W c * cv (L c) (L c) e else 0) = tot W (fun k => hpl h (L k)) c e + W c * cv (hpl h (L c)) (hpl h (L c)) e
    rw [← ih]
    by_cases q : e.sum = h + h
    · rw [if_pos q, if_pos q, cv_top r d e q]
    · rw [if_neg q, if_neg q, cv_hom r.2 q]
      simp
theorem tot_le {n : Nat} {W : Nat → Int} {L : Nat → List (Ex × Int)} {F : Nat → Ex → Int} {h : Int} : ∀ c, (∀ k, k < c → Rp n (L k) (F k) ∧ Le (F k) h) → Le (tot W L c) (h + h)
  | 0, _, e, q => absurd rfl q
  | c + 1, H, e, q => by
    obtain ⟨r, d⟩ := H c (by omega)
    by_cases z : tot W L c e = 0
    · have : tot W L c e + W c * cv (L c) (L c) e ≠ 0 := q
      rw [z] at this
      exact cv_le r d fun y => this (by rw [y]; simp)
    · exact tot_le c (fun k l => H k (by omega)) e z
theorem great : ∀ {l : List Ex}, l ≠ [] → ∃ m, m ∈ l ∧ ∀ f, f ∈ l → ¬ m < f
  | [], h => absurd rfl h
  | [x], _ => ⟨x, List.mem_cons_self, fun f m => by
    rw [List.mem_singleton.mp m]
    exact List.lt_irrefl _⟩
  | x :: y :: r, _ => by
    obtain ⟨m, mm, hm⟩ := great (l := y :: r) (by simp)
    by_cases c : m < x
    · refine ⟨x, List.mem_cons_self, fun f mf q => ?_⟩
      rcases List.mem_cons.mp mf with e | mf
      · rw [e] at q
        exact List.lt_irrefl _ q
      · exact hm f mf (List.lt_trans c q)
    · refine ⟨m, List.mem_cons_of_mem _ mm, fun f mf q => ?_⟩
      rcases List.mem_cons.mp mf with e | mf
      · rw [e] at q
        exact c q
      · exact hm f mf q
/-- all keys of the lists -/
def keys (L : Nat → List (Ex × Int)) : Nat → List (Ex × Int)
  | 0 => []
  | c + 1 => keys L c ++ L c
theorem keys_mem {L : Nat → List (Ex × Int)} {p : Ex × Int} : ∀ {c k : Nat}, k < c → p ∈ L k → p ∈ keys L c
  | 0, _, h, _ => absurd h (Nat.not_lt_zero _)
  | c + 1, k, h, m => by
    by_cases e : k = c
    · rw [e] at m
      exact List.mem_append_right _ m
    · exact List.mem_append_left _ (keys_mem (by omega) m)
theorem vl_mem {L : List (Ex × Int)} {k : Ex} (h : vl L k ≠ 0) : ∃ p, p ∈ L ∧ p.1 = k := Classical.byContradiction fun c => h (vl_none fun p m e => c ⟨p, m, e⟩)
theorem tot_pos {n : Nat} {W : Nat → Int} {L : Nat → List (Ex × Int)} {F : Nat → Ex → Int} {e : Ex} (he : e.length = n) : ∀ c, (∀ k, k < c → Rp n (L k) (F k) ∧ 0 < W k ∧ ∀ f, F k f ≠ 0 → ¬ e < f) → 0 ≤ tot W L c (ad e e) ∧ ((∃ k, k < c ∧ F k e ≠ 0) → 0 < tot W L c (ad e e))
  | 0, _ => ⟨Int.le_refl _, fun ⟨k, l, _⟩ => absurd l (Nat.not_lt_zero _)⟩
  | c + 1, H => by
    obtain ⟨i1, i2⟩ := tot_pos he c fun k l => H k (by omega)
    obtain ⟨r, w, t⟩ := H c (by omega)
    have eq : tot W L (c + 1) (ad e e) = tot W L c (ad e e) + W c * (F c e * F c e) := by
      show _ + W c * cv (L c) (L c) (ad e e) = _
      rw [cv_corner r he t]
    rw [eq]
    have sq : 0 ≤ F c e * F c e := by
      rcases Int.le_total 0 (F c e) with a | a
      · exact Int.mul_nonneg a a
      · exact Int.mul_nonneg_of_nonpos_of_nonpos a a
    have ws : 0 ≤ W c * (F c e * F c e) := Int.mul_nonneg (by omega) sq
    refine ⟨by omega, fun ⟨k, l, z⟩ => ?_⟩
    by_cases q : F c e = 0
    · have : k ≠ c := fun e => z (by rw [e]; exact q)
      have := i2 ⟨k, by omega, z⟩
      omega
    · have : 0 < F c e * F c e := by
        rcases Int.lt_trichotomy (F c e) 0 with a | a | a
        · exact Int.mul_pos_of_neg_of_neg a a
        · exact absurd a q
        · exact Int.mul_pos a a
      have := Int.mul_pos w this
      omega
/-- a weighted sum of squares of forms that are not all nought is not nought -/
theorem tot_nz {n : Nat} {W : Nat → Int} {L : Nat → List (Ex × Int)} {F : Nat → Ex → Int} {c : Nat} (H : ∀ k, k < c → Rp n (L k) (F k) ∧ 0 < W k) (hz : ∃ k e, k < c ∧ F k e ≠ 0) : ∃ e, tot W L c e ≠ 0 := by
  obtain ⟨k, e, hk, hz⟩ := hz
  have ne : ((keys L c).filter fun p => decide (∃ k, k < c ∧ F k p.1 ≠ 0)).map (·.1) ≠ [] := by
    obtain ⟨p, mp, ep⟩ := vl_mem (L := L k) (k := e) (by rw [(H k hk).1.1]; exact hz)
    refine List.ne_nil_of_mem (a := p.1) (List.mem_map_of_mem (List.mem_filter.mpr ⟨keys_mem hk mp, decide_eq_true ⟨k, hk, by rw [ep]; exact hz⟩⟩))
  obtain ⟨m, mm, hm⟩ := great ne
  obtain ⟨p, mp, rfl⟩ := List.mem_map.mp mm
  obtain ⟨j, hj, nz⟩ := of_decide_eq_true (List.mem_filter.mp mp).2
  obtain ⟨q, mq, eq⟩ := vl_mem (L := L j) (k := p.1) (by rw [(H j hj).1.1]; exact nz)
  have len : p.1.length = n := by
    rw [← eq]
    exact ((H j hj).1.2 q mq).1
  have := (tot_pos (e := p.1) (W := W) (L := L) (F := F) len c fun i hi => ⟨(H i hi).1, (H i hi).2, fun f hf => by
    obtain ⟨g, mg, eg⟩ := vl_mem (L := L i) (k := f) (by rw [(H i hi).1.1]; exact hf)
    refine hm f (List.mem_map.mpr ⟨g, List.mem_filter.mpr ⟨keys_mem hi mg, decide_eq_true ⟨i, hi, by rw [eg]; exact hf⟩⟩, eg⟩)⟩).2 ⟨j, hj, nz⟩
  exact ⟨ad p.1 p.1, by omega⟩
def Dn (a b : Ex) : Prop := ¬ ltP (a.sum, a) (b.sum, b)
theorem Dn.anti {a b : Ex} (h1 : Dn a b) (h2 : Dn b a) : a = b := by
  unfold Dn ltP at h1 h2
  have hs : a.sum = b.sum := by
    have k1 : ¬ a.sum < b.sum := fun q => h1 (.inl q)
    have k2 : ¬ b.sum < a.sum := fun q => h2 (.inl q)
    omega
  exact List.le_antisymm (fun q => h2 (.inr ⟨hs.symm, q⟩)) (fun q => h1 (.inr ⟨hs, q⟩))
/-- F's keys in their order -/
structure Cn (n : Nat) (F : Ex → Int) (l : List Ex) : Prop where
  dn : l.Pairwise Dn
  nd : l.Nodup
  mem : ∀ e, e ∈ l ↔ F e ≠ 0
  sh : ∀ e, e ∈ l → Sh n e
theorem sorted_uniq : ∀ {a b : List Ex}, a.Pairwise Dn → b.Pairwise Dn → a.Nodup → b.Nodup → (∀ e, e ∈ a ↔ e ∈ b) → a = b
  | [], [], _, _, _, _, _ => rfl
  | [], y :: b, _, _, _, _, h => by
    have := (h y).mpr List.mem_cons_self
    simp at this
  | x :: a, [], _, _, _, _, h => by
    have := (h x).mp List.mem_cons_self
    simp at this
  | x :: a, y :: b, p, q, na, nb, h => by
    have p2 := List.pairwise_cons.mp p
    have q2 := List.pairwise_cons.mp q
    have na2 := List.nodup_cons.mp na
    have nb2 := List.nodup_cons.mp nb
    have e : x = y := by
      rcases List.mem_cons.mp ((h x).mp List.mem_cons_self) with e | m
      · exact e
      · rcases List.mem_cons.mp ((h y).mpr List.mem_cons_self) with e | m2
        · exact e.symm
        · exact (p2.1 y m2).anti (q2.1 x m)
    subst e
    rw [sorted_uniq p2.2 q2.2 na2.2 nb2.2 fun e => ⟨fun m => ?_, fun m => ?_⟩]
    · rcases List.mem_cons.mp ((h e).mp (List.mem_cons_of_mem _ m)) with z | z
      · rw [z] at m
        exact absurd m na2.1
      · exact z
    · rcases List.mem_cons.mp ((h e).mpr (List.mem_cons_of_mem _ m)) with z | z
      · rw [z] at m
        exact absurd m nb2.1
      · exact z
theorem Cn.uniq {n m : Nat} {F G : Ex → Int} {a b : List Ex} (h1 : Cn n F a) (h2 : Cn m G b) (h : ∀ e, F e ≠ 0 ↔ G e ≠ 0) : a = b :=
  sorted_uniq h1.dn h2.dn h1.nd h2.nd fun e => by rw [h1.mem, h2.mem, h]
def dgl : List Ex → Int
  | [] => -1
  | e :: _ => e.sum
/-- F's degree -/
def Dg (F : Ex → Int) (d : Int) : Prop := (d = -1 ∧ ∀ e, F e = 0) ∨ (0 ≤ d ∧ Le F d ∧ ∃ e, e.sum = d ∧ F e ≠ 0)
theorem Cn.dg {n : Nat} {F : Ex → Int} : ∀ {l : List Ex}, Cn n F l → Dg F (dgl l)
  | [], h => .inl ⟨rfl, fun e => Classical.byContradiction fun z => by
    have := (h.mem e).mpr z
    simp at this⟩
  | x :: r, h => by
    refine .inr ⟨sum_nn (h.sh x List.mem_cons_self).2, fun e z => ?_, x, rfl, (h.mem x).mp List.mem_cons_self⟩
    show e.sum ≤ x.sum
    rcases List.mem_cons.mp ((h.mem e).mpr z) with q | m
    · rw [q]
      exact Int.le_refl _
    · have := (List.pairwise_cons.mp h.dn).1 e m
      unfold Dn ltP at this
      exact Int.not_lt.mp fun q => this (.inl q)
theorem Dg.uniq {F : Ex → Int} {c d : Int} (h1 : Dg F c) (h2 : Dg F d) : c = d := by
  rcases h1 with ⟨e1, z1⟩ | ⟨p1, l1, e, s1, n1⟩
  · rcases h2 with ⟨e2, z2⟩ | ⟨p2, l2, f, s2, n2⟩
    · omega
    · exact absurd (z1 f) n2
  · rcases h2 with ⟨e2, z2⟩ | ⟨p2, l2, f, s2, n2⟩
    · exact absurd (z2 e) n1
    · have := l1 f n2
      have := l2 e n1
      omega
/-- the terms of the greatest degree come first, and are the part of that degree -/
theorem Cn.hp {n : Nat} {F : Ex → Int} {l : List Ex} (h : Cn n F l) (d : Int) : Cn n (hp d F) (l.filter fun e => decide (e.sum = d)) := by
  refine ⟨h.dn.sublist List.filter_sublist, h.nd.sublist List.filter_sublist, fun e => ?_, fun e m => h.sh e (List.mem_filter.mp m).1⟩
  rw [List.mem_filter, h.mem]
  unfold S15.hp
  by_cases q : e.sum = d
  · simp [q]
  · simp [q]
theorem tot_hp {n : Nat} {W : Nat → Int} {L : Nat → List (Ex × Int)} {F : Nat → Ex → Int} {h : Int} {c : Nat} (h0 : 0 ≤ h) (H : ∀ k, k < c → Rp n (L k) (F k) ∧ Le (F k) h ∧ 0 < W k) (hz : ∃ k e, k < c ∧ e.sum = h ∧ F k e ≠ 0) : Dg (tot W L c) (h + h) := by
  have t := tot_top (W := W) (h := h) c fun k l => ⟨(H k l).1, (H k l).2.1⟩
  obtain ⟨k, e, hk, hs, nz⟩ := hz
  obtain ⟨f, hf⟩ := tot_nz (W := W) (L := fun k => hpl h (L k)) (F := fun k => hp h (F k)) (c := c) (fun k l => ⟨(H k l).1.hp, (H k l).2.2⟩) ⟨k, e, hk, by
    unfold S15.hp
    rw [if_pos hs]
    exact nz⟩
  rw [← t f] at hf
  unfold S15.hp at hf
  refine .inr ⟨by omega, tot_le c fun k l => ⟨(H k l).1, (H k l).2.1⟩, f, ?_, ?_⟩
  · exact Classical.byContradiction fun q => hf (if_neg q)
  · intro z
    rw [z] at hf
    exact hf (by split <;> rfl)
end S15
set_option maxHeartbeats 0
namespace T
open PySem PySem.Spec PyProof.Rows L2 Z
def topS (i : Nat) : Stmt := PySem.Challenge.pw_belownought_k15_top_parts_of_squares.main.body.getD i (.Pass ⟨0, 0, 0, 0⟩)
abbrev s_RatioD_initD : Stmt := inClass (topS 11) 0
theorem sc_RatioD_initD : FnScope (["self", "top", "bottom", "common"] : List Str) (["self", "top", "bottom"] : List Str) (defScope s_RatioD_initD) := ⟨rfl, rfl, rfl, by decide +kernel, rfl, by decide +kernel, by decide +kernel⟩
abbrev s_RatioD_addD : Stmt := inClass (topS 11) 2
theorem sc_RatioD_addD : FnScope (["self", "other"] : List Str) (["self", "other"] : List Str) (defScope s_RatioD_addD) := ⟨rfl, rfl, rfl, by decide +kernel, rfl, by decide +kernel, by decide +kernel⟩
abbrev s_OutOfBoundsD_initD : Stmt := inClass (topS 6) 0
theorem sc_OutOfBoundsD_initD : FnScope (["self", "value"] : List Str) (["self", "value"] : List Str) (defScope s_OutOfBoundsD_initD) := ⟨rfl, rfl, rfl, by decide +kernel, rfl, by decide +kernel, by decide +kernel⟩
abbrev s_check_number : Stmt := topS 8
theorem sc_check_number : FnScope (["value", "low", "high"] : List Str) (["value", "low", "high"] : List Str) (defScope s_check_number) := ⟨rfl, rfl, rfl, by decide +kernel, rfl, by decide +kernel, by decide +kernel⟩
abbrev s_BadSizeD_initD : Stmt := inClass (topS 7) 0
theorem sc_BadSizeD_initD : FnScope (["self", "size"] : List Str) (["self", "size"] : List Str) (defScope s_BadSizeD_initD) := ⟨rfl, rfl, rfl, by decide +kernel, rfl, by decide +kernel, by decide +kernel⟩
abbrev s_check_size : Stmt := topS 9
theorem sc_check_size : FnScope (["things", "low", "high", "size"] : List Str) (["things", "low", "high"] : List Str) (defScope s_check_size) := ⟨rfl, rfl, rfl, by decide +kernel, rfl, by decide +kernel, by decide +kernel⟩
abbrev s_ordered_terms : Stmt := topS 32
theorem sc_ordered_terms : FnScope (["table", "places", "exponents", "_"] : List Str) (["table"] : List Str) (defScope s_ordered_terms) := ⟨rfl, rfl, rfl, by decide +kernel, rfl, by decide +kernel, by decide +kernel⟩
abbrev s_collected_terms : Stmt := topS 31
theorem sc_collected_terms : FnScope (["letters", "pairs", "table", "exponents", "ratio", "exponent", "place"] : List Str) (["letters", "pairs"] : List Str) (defScope s_collected_terms) := ⟨rfl, rfl, rfl, by decide +kernel, rfl, by decide +kernel, by decide +kernel⟩
abbrev s_FormD_initD : Stmt := inClass (topS 30) 0
theorem sc_FormD_initD : FnScope (["self", "letters", "pairs", "sure", "terms"] : List Str) (["self", "letters", "pairs", "sure"] : List Str) (defScope s_FormD_initD) := ⟨rfl, rfl, rfl, by decide +kernel, rfl, by decide +kernel, by decide +kernel⟩
abbrev s_Form_made : Stmt := inClass (topS 30) 1
theorem sc_Form_made : FnScope (["letters", "table"] : List Str) (["letters", "table"] : List Str) (defScope s_Form_made) := ⟨rfl, rfl, rfl, by decide +kernel, rfl, by decide +kernel, by decide +kernel⟩
abbrev s_FormD_addD : Stmt := inClass (topS 30) 6
theorem sc_FormD_addD : FnScope (["self", "other", "table", "exponents", "ratio"] : List Str) (["self", "other"] : List Str) (defScope s_FormD_addD) := ⟨rfl, rfl, rfl, by decide +kernel, rfl, by decide +kernel, by decide +kernel⟩
abbrev s_form_over : Stmt := topS 34
theorem sc_form_over : FnScope (["letters", "table", "over", "exponents", "number"] : List Str) (["letters", "table", "over"] : List Str) (defScope s_form_over) := ⟨rfl, rfl, rfl, by decide +kernel, rfl, by decide +kernel, by decide +kernel⟩
abbrev s_table_product : Stmt := topS 36
theorem sc_table_product : FnScope (["first", "second", "table", "left", "number", "right", "other", "exponents", "a", "b"] : List Str) (["first", "second"] : List Str) (defScope s_table_product) := ⟨rfl, rfl, rfl, by decide +kernel, rfl, by decide +kernel, by decide +kernel⟩
abbrev s_whole_terms : Stmt := topS 35
theorem sc_whole_terms : FnScope (["terms", "over", "_", "ratio", "exponents"] : List Str) (["terms"] : List Str) (defScope s_whole_terms) := ⟨rfl, rfl, rfl, by decide +kernel, rfl, by decide +kernel, by decide +kernel⟩
abbrev s_FormD_mulD : Stmt := inClass (topS 30) 9
theorem sc_FormD_mulD : FnScope (["self", "other", "first", "over", "second", "base"] : List Str) (["self", "other"] : List Str) (defScope s_FormD_mulD) := ⟨rfl, rfl, rfl, by decide +kernel, rfl, by decide +kernel, by decide +kernel⟩
abbrev s_RatioD_mulD : Stmt := inClass (topS 11) 4
theorem sc_RatioD_mulD : FnScope (["self", "other"] : List Str) (["self", "other"] : List Str) (defScope s_RatioD_mulD) := ⟨rfl, rfl, rfl, by decide +kernel, rfl, by decide +kernel, by decide +kernel⟩
abbrev s_Form_scaled : Stmt := inClass (topS 30) 11
theorem sc_Form_scaled : FnScope (["self", "ratio", "exponents", "old"] : List Str) (["self", "ratio"] : List Str) (defScope s_Form_scaled) := ⟨rfl, rfl, rfl, by decide +kernel, rfl, by decide +kernel, by decide +kernel⟩
abbrev s_Form_top_part : Stmt := inClass (topS 30) 14
theorem sc_Form_top_part : FnScope (["self", "term"] : List Str) (["self"] : List Str) (defScope s_Form_top_part) := ⟨rfl, rfl, rfl, by decide +kernel, rfl, by decide +kernel, by decide +kernel⟩
abbrev s_law_in_order : Stmt := topS 46
theorem sc_law_in_order : FnScope (["a", "ranks", "ex", "rank"] : List Str) (["a"] : List Str) (defScope s_law_in_order) := ⟨rfl, rfl, rfl, by decide +kernel, rfl, by decide +kernel, by decide +kernel⟩
abbrev s_law_degree : Stmt := topS 52
theorem sc_law_degree : FnScope (["a", "ex"] : List Str) (["a"] : List Str) (defScope s_law_degree) := ⟨rfl, rfl, rfl, by decide +kernel, rfl, by decide +kernel, by decide +kernel⟩
abbrev s_law_draw : Stmt := topS 40
theorem sc_law_draw : FnScope (["cells", "k", "count", "number", "row", "j"] : List Str) (["cells", "k", "count"] : List Str) (defScope s_law_draw) := ⟨rfl, rfl, rfl, by decide +kernel, rfl, by decide +kernel, by decide +kernel⟩
abbrev s_law_drawn : Stmt := topS 53
theorem sc_law_drawn : FnScope (["cells", "k", "count", "n", "wide", "table", "j", "row", "ex", "i", "part"] : List Str) (["cells", "k", "count", "n", "wide"] : List Str) (defScope s_law_drawn) := ⟨rfl, rfl, rfl, by decide +kernel, rfl, by decide +kernel, by decide +kernel⟩
abbrev s_law_gcd : Stmt := topS 42
theorem sc_law_gcd : FnScope (["a", "b", "rest"] : List Str) (["a", "b"] : List Str) (defScope s_law_gcd) := ⟨rfl, rfl, rfl, by decide +kernel, rfl, by decide +kernel, by decide +kernel⟩
abbrev s_law_sum : Stmt := topS 49
theorem sc_law_sum : FnScope (["a", "b", "g", "table", "ex"] : List Str) (["a", "b"] : List Str) (defScope s_law_sum) := ⟨rfl, rfl, rfl, by decide +kernel, rfl, by decide +kernel, by decide +kernel⟩
abbrev s_law_turned : Stmt := topS 54
theorem sc_law_turned : FnScope (["a", "way", "rows", "table", "k"] : List Str) (["a", "way"] : List Str) (defScope s_law_turned) := ⟨rfl, rfl, rfl, by decide +kernel, rfl, by decide +kernel, by decide +kernel⟩
abbrev s_law_forms : Stmt := topS 55
theorem sc_law_forms : FnScope (["cells", "count", "n", "wide", "sizes", "ways", "own", "k", "a", "way"] : List Str) (["cells", "count", "n", "wide"] : List Str) (defScope s_law_forms) := ⟨rfl, rfl, rfl, by decide +kernel, rfl, by decide +kernel, by decide +kernel⟩
abbrev s_law_whole : Stmt := topS 41
theorem sc_law_whole : FnScope (["x"] : List Str) (["x"] : List Str) (defScope s_law_whole) := ⟨rfl, rfl, rfl, by decide +kernel, rfl, by decide +kernel, by decide +kernel⟩
abbrev s_law_is_ratio : Stmt := topS 43
theorem sc_law_is_ratio : FnScope (["x", "top", "bottom", "g"] : List Str) (["x", "top", "bottom"] : List Str) (defScope s_law_is_ratio) := ⟨rfl, rfl, rfl, by decide +kernel, rfl, by decide +kernel, by decide +kernel⟩
abbrev s_law_is_row : Stmt := topS 44
theorem sc_law_is_row : FnScope (["x", "due", "size", "k"] : List Str) (["x", "due"] : List Str) (defScope s_law_is_row) := ⟨rfl, rfl, rfl, by decide +kernel, rfl, by decide +kernel, by decide +kernel⟩
abbrev s_law_is_form : Stmt := topS 47
theorem sc_law_is_form : FnScope (["x", "n", "a", "rows", "k", "pair", "high", "ex"] : List Str) (["x", "n", "a"] : List Str) (defScope s_law_is_form) := ⟨rfl, rfl, rfl, by decide +kernel, rfl, by decide +kernel, by decide +kernel⟩
abbrev s_law_made : Stmt := topS 48
theorem sc_law_made : FnScope (["n", "a", "ex"] : List Str) (["n", "a"] : List Str) (defScope s_law_made) := ⟨rfl, rfl, rfl, by decide +kernel, rfl, by decide +kernel, by decide +kernel⟩
abbrev s_law_product : Stmt := topS 45
theorem sc_law_product : FnScope (["a", "b", "table", "one", "two", "ex", "k"] : List Str) (["a", "b"] : List Str) (defScope s_law_product) := ⟨rfl, rfl, rfl, by decide +kernel, rfl, by decide +kernel, by decide +kernel⟩
abbrev s_law_scale : Stmt := topS 50
theorem sc_law_scale : FnScope (["a", "top", "bottom", "table", "ex"] : List Str) (["a", "top", "bottom"] : List Str) (defScope s_law_scale) := ⟨rfl, rfl, rfl, by decide +kernel, rfl, by decide +kernel, by decide +kernel⟩
abbrev s_law_top_of : Stmt := topS 51
theorem sc_law_top_of : FnScope (["a", "rows", "table", "ex"] : List Str) (["a"] : List Str) (defScope s_law_top_of) := ⟨rfl, rfl, rfl, by decide +kernel, rfl, by decide +kernel, by decide +kernel⟩
abbrev s_RatioD_negD : Stmt := inClass (topS 11) 5
theorem sc_RatioD_negD : FnScope (["self"] : List Str) (["self"] : List Str) (defScope s_RatioD_negD) := ⟨rfl, rfl, rfl, by decide +kernel, rfl, by decide +kernel, by decide +kernel⟩
abbrev s_FormD_negD : Stmt := inClass (topS 30) 8
theorem sc_FormD_negD : FnScope (["self", "exponents", "ratio"] : List Str) (["self"] : List Str) (defScope s_FormD_negD) := ⟨rfl, rfl, rfl, by decide +kernel, rfl, by decide +kernel, by decide +kernel⟩
abbrev s_FormD_subD : Stmt := inClass (topS 30) 7
theorem sc_FormD_subD : FnScope (["self", "other"] : List Str) (["self", "other"] : List Str) (defScope s_FormD_subD) := ⟨rfl, rfl, rfl, by decide +kernel, rfl, by decide +kernel, by decide +kernel⟩
abbrev s_law_tops_hold : Stmt := topS 56
theorem sc_law_tops_hold : FnScope (["n", "total", "forms", "own", "due", "high", "a", "k"] : List Str) (["n", "total", "forms", "own", "due"] : List Str) (defScope s_law_tops_hold) := ⟨rfl, rfl, rfl, by decide +kernel, rfl, by decide +kernel, by decide +kernel⟩
abbrev s_law : Stmt := topS 57
theorem sc_law : FnScope (["script", "cells", "row", "mode", "n", "own", "high", "a", "forms", "total", "due", "tops", "k", "top", "f", "part"] : List Str) (["script"] : List Str) (defScope s_law) := ⟨rfl, rfl, rfl, by decide +kernel, rfl, by decide +kernel, by decide +kernel⟩
def df_RatioD_initD : He5.DefA := ⟨fun K => He.fAd K ("Ratio", some "__init__"), "__init__", "Ratio.__init__", defArgs s_RatioD_initD, defBody s_RatioD_initD, defScope s_RatioD_initD, [.int 1], []⟩
def df_RatioD_addD : He5.DefA := ⟨fun K => He.fAd K ("Ratio", some "__add__"), "__add__", "Ratio.__add__", defArgs s_RatioD_addD, defBody s_RatioD_addD, defScope s_RatioD_addD, [], []⟩
def df_OutOfBoundsD_initD : He5.DefA := ⟨fun K => He.fAd K ("OutOfBounds", some "__init__"), "__init__", "OutOfBounds.__init__", defArgs s_OutOfBoundsD_initD, defBody s_OutOfBoundsD_initD, defScope s_OutOfBoundsD_initD, [], []⟩
def df_check_number : He5.DefA := ⟨fun K => He.fAd K ("check_number", none), "check_number", "check_number", defArgs s_check_number, defBody s_check_number, defScope s_check_number, [.non], []⟩
def df_BadSizeD_initD : He5.DefA := ⟨fun K => He.fAd K ("BadSize", some "__init__"), "__init__", "BadSize.__init__", defArgs s_BadSizeD_initD, defBody s_BadSizeD_initD, defScope s_BadSizeD_initD, [], []⟩
def df_check_size : He5.DefA := ⟨fun K => He.fAd K ("check_size", none), "check_size", "check_size", defArgs s_check_size, defBody s_check_size, defScope s_check_size, [], []⟩
def df_ordered_terms : He5.DefA := ⟨fun K => He.fAd K ("ordered_terms", none), "ordered_terms", "ordered_terms", defArgs s_ordered_terms, defBody s_ordered_terms, defScope s_ordered_terms, [], []⟩
def df_collected_terms : He5.DefA := ⟨fun K => He.fAd K ("collected_terms", none), "collected_terms", "collected_terms", defArgs s_collected_terms, defBody s_collected_terms, defScope s_collected_terms, [], []⟩
def df_FormD_initD : He5.DefA := ⟨fun K => He.fAd K ("Form", some "__init__"), "__init__", "Form.__init__", defArgs s_FormD_initD, defBody s_FormD_initD, defScope s_FormD_initD, [], [("sure", .bl false)]⟩
def df_Form_made : He5.DefA := ⟨fun K => He5.wf K (He.ga K "Form") "staticmethod" "made", "made", "Form.made", defArgs s_Form_made, defBody s_Form_made, defScope s_Form_made, [], []⟩
def df_FormD_addD : He5.DefA := ⟨fun K => He.fAd K ("Form", some "__add__"), "__add__", "Form.__add__", defArgs s_FormD_addD, defBody s_FormD_addD, defScope s_FormD_addD, [], []⟩
def df_form_over : He5.DefA := ⟨fun K => He.fAd K ("form_over", none), "form_over", "form_over", defArgs s_form_over, defBody s_form_over, defScope s_form_over, [], []⟩
def df_table_product : He5.DefA := ⟨fun K => He.fAd K ("table_product", none), "table_product", "table_product", defArgs s_table_product, defBody s_table_product, defScope s_table_product, [], []⟩
def df_whole_terms : He5.DefA := ⟨fun K => He.fAd K ("whole_terms", none), "whole_terms", "whole_terms", defArgs s_whole_terms, defBody s_whole_terms, defScope s_whole_terms, [], []⟩
def df_FormD_mulD : He5.DefA := ⟨fun K => He.fAd K ("Form", some "__mul__"), "__mul__", "Form.__mul__", defArgs s_FormD_mulD, defBody s_FormD_mulD, defScope s_FormD_mulD, [], []⟩
def df_RatioD_mulD : He5.DefA := ⟨fun K => He.fAd K ("Ratio", some "__mul__"), "__mul__", "Ratio.__mul__", defArgs s_RatioD_mulD, defBody s_RatioD_mulD, defScope s_RatioD_mulD, [], []⟩
def df_Form_scaled : He5.DefA := ⟨fun K => He.fAd K ("Form", some "scaled"), "scaled", "Form.scaled", defArgs s_Form_scaled, defBody s_Form_scaled, defScope s_Form_scaled, [], []⟩
def df_Form_top_part : He5.DefA := ⟨fun K => He.fAd K ("Form", some "top_part"), "top_part", "Form.top_part", defArgs s_Form_top_part, defBody s_Form_top_part, defScope s_Form_top_part, [], []⟩
def df_law_in_order : He5.DefA := ⟨fun K => He.fAd K ("_law_in_order", none), "_law_in_order", "_law_in_order", defArgs s_law_in_order, defBody s_law_in_order, defScope s_law_in_order, [], []⟩
def df_law_degree : He5.DefA := ⟨fun K => He.fAd K ("_law_degree", none), "_law_degree", "_law_degree", defArgs s_law_degree, defBody s_law_degree, defScope s_law_degree, [], []⟩
def df_law_draw : He5.DefA := ⟨fun K => He.fAd K ("_law_draw", none), "_law_draw", "_law_draw", defArgs s_law_draw, defBody s_law_draw, defScope s_law_draw, [], []⟩
def df_law_drawn : He5.DefA := ⟨fun K => He.fAd K ("_law_drawn", none), "_law_drawn", "_law_drawn", defArgs s_law_drawn, defBody s_law_drawn, defScope s_law_drawn, [], []⟩
def df_law_gcd : He5.DefA := ⟨fun K => He.fAd K ("_law_gcd", none), "_law_gcd", "_law_gcd", defArgs s_law_gcd, defBody s_law_gcd, defScope s_law_gcd, [], []⟩
def df_law_sum : He5.DefA := ⟨fun K => He.fAd K ("_law_sum", none), "_law_sum", "_law_sum", defArgs s_law_sum, defBody s_law_sum, defScope s_law_sum, [], []⟩
def df_law_turned : He5.DefA := ⟨fun K => He.fAd K ("_law_turned", none), "_law_turned", "_law_turned", defArgs s_law_turned, defBody s_law_turned, defScope s_law_turned, [], []⟩
def df_law_forms : He5.DefA := ⟨fun K => He.fAd K ("_law_forms", none), "_law_forms", "_law_forms", defArgs s_law_forms, defBody s_law_forms, defScope s_law_forms, [], []⟩
def df_law_whole : He5.DefA := ⟨fun K => He.fAd K ("_law_whole", none), "_law_whole", "_law_whole", defArgs s_law_whole, defBody s_law_whole, defScope s_law_whole, [], []⟩
def df_law_is_ratio : He5.DefA := ⟨fun K => He.fAd K ("_law_is_ratio", none), "_law_is_ratio", "_law_is_ratio", defArgs s_law_is_ratio, defBody s_law_is_ratio, defScope s_law_is_ratio, [], []⟩
def df_law_is_row : He5.DefA := ⟨fun K => He.fAd K ("_law_is_row", none), "_law_is_row", "_law_is_row", defArgs s_law_is_row, defBody s_law_is_row, defScope s_law_is_row, [], []⟩
def df_law_is_form : He5.DefA := ⟨fun K => He.fAd K ("_law_is_form", none), "_law_is_form", "_law_is_form", defArgs s_law_is_form, defBody s_law_is_form, defScope s_law_is_form, [], []⟩
def df_law_made : He5.DefA := ⟨fun K => He.fAd K ("_law_made", none), "_law_made", "_law_made", defArgs s_law_made, defBody s_law_made, defScope s_law_made, [], []⟩
def df_law_product : He5.DefA := ⟨fun K => He.fAd K ("_law_product", none), "_law_product", "_law_product", defArgs s_law_product, defBody s_law_product, defScope s_law_product, [], []⟩
def df_law_scale : He5.DefA := ⟨fun K => He.fAd K ("_law_scale", none), "_law_scale", "_law_scale", defArgs s_law_scale, defBody s_law_scale, defScope s_law_scale, [], []⟩
def df_law_top_of : He5.DefA := ⟨fun K => He.fAd K ("_law_top_of", none), "_law_top_of", "_law_top_of", defArgs s_law_top_of, defBody s_law_top_of, defScope s_law_top_of, [], []⟩
def df_RatioD_negD : He5.DefA := ⟨fun K => He.fAd K ("Ratio", some "__neg__"), "__neg__", "Ratio.__neg__", defArgs s_RatioD_negD, defBody s_RatioD_negD, defScope s_RatioD_negD, [], []⟩
def df_FormD_negD : He5.DefA := ⟨fun K => He.fAd K ("Form", some "__neg__"), "__neg__", "Form.__neg__", defArgs s_FormD_negD, defBody s_FormD_negD, defScope s_FormD_negD, [], []⟩
def df_FormD_subD : He5.DefA := ⟨fun K => He.fAd K ("Form", some "__sub__"), "__sub__", "Form.__sub__", defArgs s_FormD_subD, defBody s_FormD_subD, defScope s_FormD_subD, [], []⟩
def df_law_tops_hold : He5.DefA := ⟨fun K => He.fAd K ("_law_tops_hold", none), "_law_tops_hold", "_law_tops_hold", defArgs s_law_tops_hold, defBody s_law_tops_hold, defScope s_law_tops_hold, [], []⟩
def df_law : He5.DefA := ⟨fun K => He.fAd K ("law", none), "law", "law", defArgs s_law, defBody s_law, defScope s_law, [], []⟩
def fn : List He5.DefA := [df_RatioD_initD, df_RatioD_addD, df_OutOfBoundsD_initD, df_check_number, df_BadSizeD_initD, df_check_size, df_ordered_terms, df_collected_terms, df_FormD_initD, df_Form_made, df_FormD_addD, df_form_over, df_table_product, df_whole_terms, df_FormD_mulD, df_RatioD_mulD, df_Form_scaled, df_Form_top_part, df_law_in_order, df_law_degree, df_law_draw, df_law_drawn, df_law_gcd, df_law_sum, df_law_turned, df_law_forms, df_law_whole, df_law_is_ratio, df_law_is_row, df_law_is_form, df_law_made, df_law_product, df_law_scale, df_law_top_of, df_RatioD_negD, df_FormD_negD, df_FormD_subD, df_law_tops_hold, df_law]
def fb : List Chk := [cGlo "BadSize", cGlo "Form", cGlo "OutOfBounds", cGlo "Ratio", cGlo "ZeroBottom", cGlo "_law_degree", cGlo "_law_draw", cGlo "_law_drawn", cGlo "_law_forms", cGlo "_law_gcd", cGlo "_law_in_order", cGlo "_law_is_form", cGlo "_law_is_ratio", cGlo "_law_is_row", cGlo "_law_made", cGlo "_law_product", cGlo "_law_scale", cGlo "_law_sum", cGlo "_law_top_of", cGlo "_law_tops_hold", cGlo "_law_turned", cGlo "_law_whole", cGlo "check_number", cGlo "check_size", cGlo "collected_terms", cGlo "form_over", cGlo "law", cGlo "ordered_terms", cGlo "table_product", cGlo "whole_terms", cFree "abs", cFree "all", cFree "bool", cVal "gcd" "math.gcd", cFree "int", cFree "isinstance", cVal "lcm" "math.lcm", cFree "len", cFree "list", cFree "max", cFree "range", cFree "sorted", cFree "staticmethod", cFree "sum", cFree "tuple", cFree "zip", cCls "Ratio", cIns "Ratio", cMk "Ratio", cSelf "Ratio", cNo "Ratio" "bottom", cNo "Ratio" "top", cMeth "Ratio" "__add__", cMeth "Ratio" "__mul__", cMeth "Ratio" "__neg__", cCls "Form", cIns "Form", cMk "Form", cSelf "Form", cNo "Form" "degree", cNo "Form" "letters", cNo "Form" "terms", cRead "Form", cStat "Form" "made", cMeth "Form" "__add__", cMeth "Form" "__mul__", cMeth "Form" "scaled", cMeth "Form" "top_part", cMeth "Form" "__neg__", cMeth "Form" "__sub__", cOex "BadSize", cNo "BadSize" "size", cOex "OutOfBounds", cNo "OutOfBounds" "value", cExc0 "ZeroBottom", cKit "Ratio" "Ratio" true, cKit "Form" "Form" true]
abbrev Lw (K : Frag) (mg : Str → Option Value) : Prop := LwB fb fn K mg
section
variable {K : Frag} {mg : Str → Option Value}
theorem Lw.g_BadSize (L : Lw K mg) : mg "BadSize" = some (.ref (He.ga K "BadSize")) := by
  obtain ⟨h, X, G⟩ := L.at_
  exact He.glo_ok X G (L.c.fact 0 rfl)
theorem Lw.g_Form (L : Lw K mg) : mg "Form" = some (.ref (He.ga K "Form")) := by
  obtain ⟨h, X, G⟩ := L.at_
  exact He.glo_ok X G (L.c.fact 1 rfl)
theorem Lw.g_OutOfBounds (L : Lw K mg) : mg "OutOfBounds" = some (.ref (He.ga K "OutOfBounds")) := by
  obtain ⟨h, X, G⟩ := L.at_
  exact He.glo_ok X G (L.c.fact 2 rfl)
theorem Lw.g_Ratio (L : Lw K mg) : mg "Ratio" = some (.ref (He.ga K "Ratio")) := by
  obtain ⟨h, X, G⟩ := L.at_
  exact He.glo_ok X G (L.c.fact 3 rfl)
theorem Lw.g_ZeroBottom (L : Lw K mg) : mg "ZeroBottom" = some (.ref (He.ga K "ZeroBottom")) := by
  obtain ⟨h, X, G⟩ := L.at_
  exact He.glo_ok X G (L.c.fact 4 rfl)
theorem Lw.g_law_degree (L : Lw K mg) : mg "_law_degree" = some (.ref (He.ga K "_law_degree")) := by
  obtain ⟨h, X, G⟩ := L.at_
  exact He.glo_ok X G (L.c.fact 5 rfl)
theorem Lw.g_law_draw (L : Lw K mg) : mg "_law_draw" = some (.ref (He.ga K "_law_draw")) := by
  obtain ⟨h, X, G⟩ := L.at_
  exact He.glo_ok X G (L.c.fact 6 rfl)
theorem Lw.g_law_drawn (L : Lw K mg) : mg "_law_drawn" = some (.ref (He.ga K "_law_drawn")) := by
  obtain ⟨h, X, G⟩ := L.at_
  exact He.glo_ok X G (L.c.fact 7 rfl)
theorem Lw.g_law_forms (L : Lw K mg) : mg "_law_forms" = some (.ref (He.ga K "_law_forms")) := by
  obtain ⟨h, X, G⟩ := L.at_
  exact He.glo_ok X G (L.c.fact 8 rfl)
theorem Lw.g_law_gcd (L : Lw K mg) : mg "_law_gcd" = some (.ref (He.ga K "_law_gcd")) := by
  obtain ⟨h, X, G⟩ := L.at_
  exact He.glo_ok X G (L.c.fact 9 rfl)
theorem Lw.g_law_in_order (L : Lw K mg) : mg "_law_in_order" = some (.ref (He.ga K "_law_in_order")) := by
  obtain ⟨h, X, G⟩ := L.at_
  exact He.glo_ok X G (L.c.fact 10 rfl)
theorem Lw.g_law_is_form (L : Lw K mg) : mg "_law_is_form" = some (.ref (He.ga K "_law_is_form")) := by
  obtain ⟨h, X, G⟩ := L.at_
  exact He.glo_ok X G (L.c.fact 11 rfl)
theorem Lw.g_law_is_ratio (L : Lw K mg) : mg "_law_is_ratio" = some (.ref (He.ga K "_law_is_ratio")) := by
  obtain ⟨h, X, G⟩ := L.at_
  exact He.glo_ok X G (L.c.fact 12 rfl)
theorem Lw.g_law_is_row (L : Lw K mg) : mg "_law_is_row" = some (.ref (He.ga K "_law_is_row")) := by
  obtain ⟨h, X, G⟩ := L.at_
  exact He.glo_ok X G (L.c.fact 13 rfl)
theorem Lw.g_law_made (L : Lw K mg) : mg "_law_made" = some (.ref (He.ga K "_law_made")) := by
  obtain ⟨h, X, G⟩ := L.at_
  exact He.glo_ok X G (L.c.fact 14 rfl)
theorem Lw.g_law_product (L : Lw K mg) : mg "_law_product" = some (.ref (He.ga K "_law_product")) := by
  obtain ⟨h, X, G⟩ := L.at_
  exact He.glo_ok X G (L.c.fact 15 rfl)
theorem Lw.g_law_scale (L : Lw K mg) : mg "_law_scale" = some (.ref (He.ga K "_law_scale")) := by
  obtain ⟨h, X, G⟩ := L.at_
  exact He.glo_ok X G (L.c.fact 16 rfl)
theorem Lw.g_law_sum (L : Lw K mg) : mg "_law_sum" = some (.ref (He.ga K "_law_sum")) := by
  obtain ⟨h, X, G⟩ := L.at_
  exact He.glo_ok X G (L.c.fact 17 rfl)
theorem Lw.g_law_top_of (L : Lw K mg) : mg "_law_top_of" = some (.ref (He.ga K "_law_top_of")) := by
  obtain ⟨h, X, G⟩ := L.at_
  exact He.glo_ok X G (L.c.fact 18 rfl)
theorem Lw.g_law_tops_hold (L : Lw K mg) : mg "_law_tops_hold" = some (.ref (He.ga K "_law_tops_hold")) := by
  obtain ⟨h, X, G⟩ := L.at_
  exact He.glo_ok X G (L.c.fact 19 rfl)
theorem Lw.g_law_turned (L : Lw K mg) : mg "_law_turned" = some (.ref (He.ga K "_law_turned")) := by
  obtain ⟨h, X, G⟩ := L.at_
  exact He.glo_ok X G (L.c.fact 20 rfl)
theorem Lw.g_law_whole (L : Lw K mg) : mg "_law_whole" = some (.ref (He.ga K "_law_whole")) := by
  obtain ⟨h, X, G⟩ := L.at_
  exact He.glo_ok X G (L.c.fact 21 rfl)
theorem Lw.g_check_number (L : Lw K mg) : mg "check_number" = some (.ref (He.ga K "check_number")) := by
  obtain ⟨h, X, G⟩ := L.at_
  exact He.glo_ok X G (L.c.fact 22 rfl)
theorem Lw.g_check_size (L : Lw K mg) : mg "check_size" = some (.ref (He.ga K "check_size")) := by
  obtain ⟨h, X, G⟩ := L.at_
  exact He.glo_ok X G (L.c.fact 23 rfl)
theorem Lw.g_collected_terms (L : Lw K mg) : mg "collected_terms" = some (.ref (He.ga K "collected_terms")) := by
  obtain ⟨h, X, G⟩ := L.at_
  exact He.glo_ok X G (L.c.fact 24 rfl)
theorem Lw.g_form_over (L : Lw K mg) : mg "form_over" = some (.ref (He.ga K "form_over")) := by
  obtain ⟨h, X, G⟩ := L.at_
  exact He.glo_ok X G (L.c.fact 25 rfl)
theorem Lw.g_law (L : Lw K mg) : mg "law" = some (.ref (He.ga K "law")) := by
  obtain ⟨h, X, G⟩ := L.at_
  exact He.glo_ok X G (L.c.fact 26 rfl)
theorem Lw.g_ordered_terms (L : Lw K mg) : mg "ordered_terms" = some (.ref (He.ga K "ordered_terms")) := by
  obtain ⟨h, X, G⟩ := L.at_
  exact He.glo_ok X G (L.c.fact 27 rfl)
theorem Lw.g_table_product (L : Lw K mg) : mg "table_product" = some (.ref (He.ga K "table_product")) := by
  obtain ⟨h, X, G⟩ := L.at_
  exact He.glo_ok X G (L.c.fact 28 rfl)
theorem Lw.g_whole_terms (L : Lw K mg) : mg "whole_terms" = some (.ref (He.ga K "whole_terms")) := by
  obtain ⟨h, X, G⟩ := L.at_
  exact He.glo_ok X G (L.c.fact 29 rfl)
theorem Lw.f_abs (L : Lw K mg) : mg "abs" = none := by
  obtain ⟨h, X, G⟩ := L.at_
  exact He.free_ok X G (L.c.fact 30 rfl)
theorem Lw.f_all (L : Lw K mg) : mg "all" = none := by
  obtain ⟨h, X, G⟩ := L.at_
  exact He.free_ok X G (L.c.fact 31 rfl)
theorem Lw.f_bool (L : Lw K mg) : mg "bool" = none := by
  obtain ⟨h, X, G⟩ := L.at_
  exact He.free_ok X G (L.c.fact 32 rfl)
theorem Lw.v_gcd (L : Lw K mg) : mg "gcd" = some (.builtin "math.gcd") := by
  obtain ⟨h, X, G⟩ := L.at_
  exact PySem.W.mg_of X G (He.eqO_ok (L.c.fact 33 rfl))
theorem Lw.f_int (L : Lw K mg) : mg "int" = none := by
  obtain ⟨h, X, G⟩ := L.at_
  exact He.free_ok X G (L.c.fact 34 rfl)
theorem Lw.f_isinstance (L : Lw K mg) : mg "isinstance" = none := by
  obtain ⟨h, X, G⟩ := L.at_
  exact He.free_ok X G (L.c.fact 35 rfl)
theorem Lw.v_lcm (L : Lw K mg) : mg "lcm" = some (.builtin "math.lcm") := by
  obtain ⟨h, X, G⟩ := L.at_
  exact PySem.W.mg_of X G (He.eqO_ok (L.c.fact 36 rfl))
theorem Lw.f_len (L : Lw K mg) : mg "len" = none := by
  obtain ⟨h, X, G⟩ := L.at_
  exact He.free_ok X G (L.c.fact 37 rfl)
theorem Lw.f_list (L : Lw K mg) : mg "list" = none := by
  obtain ⟨h, X, G⟩ := L.at_
  exact He.free_ok X G (L.c.fact 38 rfl)
theorem Lw.f_max (L : Lw K mg) : mg "max" = none := by
  obtain ⟨h, X, G⟩ := L.at_
  exact He.free_ok X G (L.c.fact 39 rfl)
theorem Lw.f_range (L : Lw K mg) : mg "range" = none := by
  obtain ⟨h, X, G⟩ := L.at_
  exact He.free_ok X G (L.c.fact 40 rfl)
theorem Lw.f_sorted (L : Lw K mg) : mg "sorted" = none := by
  obtain ⟨h, X, G⟩ := L.at_
  exact He.free_ok X G (L.c.fact 41 rfl)
theorem Lw.f_sum (L : Lw K mg) : mg "sum" = none := by
  obtain ⟨h, X, G⟩ := L.at_
  exact He.free_ok X G (L.c.fact 43 rfl)
theorem Lw.f_tuple (L : Lw K mg) : mg "tuple" = none := by
  obtain ⟨h, X, G⟩ := L.at_
  exact He.free_ok X G (L.c.fact 44 rfl)
theorem Lw.f_zip (L : Lw K mg) : mg "zip" = none := by
  obtain ⟨h, X, G⟩ := L.at_
  exact He.free_ok X G (L.c.fact 45 rfl)
theorem Lw.cl_Ratio (L : Lw K mg) : Cls K (He.ga K "Ratio") := He.cls_ok (L.c.fact 46 rfl)
theorem Lw.in_Ratio (L : Lw K mg) : InsK K (He.ga K "Ratio") := insK_ok (L.c.fact 47 rfl)
theorem Lw.mk_Ratio (L : Lw K mg) : Mk K (He.ga K "Ratio") (He.ma K (He.ga K "Ratio") "__init__") := He.mkr_ok (L.c.fact 48 rfl)
theorem Lw.sf_Ratio (L : Lw K mg) : PySem.W.selfFirst K (He.ga K "Ratio") = true := (L.c.fact 49 rfl)
theorem Lw.na_Ratio_bottom (L : Lw K mg) : NoAttr K (He.ga K "Ratio") "bottom" := He.noat_ok (L.c.fact 50 rfl)
theorem Lw.na_Ratio_top (L : Lw K mg) : NoAttr K (He.ga K "Ratio") "top" := He.noat_ok (L.c.fact 51 rfl)
theorem Lw.me_RatioD_addD (L : Lw K mg) : Meth K (He.ga K "Ratio") "__add__" (He.ma K (He.ga K "Ratio") "__add__") := He.meth_ok (L.c.fact 52 rfl)
theorem Lw.me_RatioD_mulD (L : Lw K mg) : Meth K (He.ga K "Ratio") "__mul__" (He.ma K (He.ga K "Ratio") "__mul__") := He.meth_ok (L.c.fact 53 rfl)
theorem Lw.me_RatioD_negD (L : Lw K mg) : Meth K (He.ga K "Ratio") "__neg__" (He.ma K (He.ga K "Ratio") "__neg__") := He.meth_ok (L.c.fact 54 rfl)
theorem Lw.cl_Form (L : Lw K mg) : Cls K (He.ga K "Form") := He.cls_ok (L.c.fact 55 rfl)
theorem Lw.in_Form (L : Lw K mg) : InsK K (He.ga K "Form") := insK_ok (L.c.fact 56 rfl)
theorem Lw.mk_Form (L : Lw K mg) : Mk K (He.ga K "Form") (He.ma K (He.ga K "Form") "__init__") := He.mkr_ok (L.c.fact 57 rfl)
theorem Lw.sf_Form (L : Lw K mg) : PySem.W.selfFirst K (He.ga K "Form") = true := (L.c.fact 58 rfl)
theorem Lw.na_Form_degree (L : Lw K mg) : NoAttr K (He.ga K "Form") "degree" := He.noat_ok (L.c.fact 59 rfl)
theorem Lw.na_Form_letters (L : Lw K mg) : NoAttr K (He.ga K "Form") "letters" := He.noat_ok (L.c.fact 60 rfl)
theorem Lw.na_Form_terms (L : Lw K mg) : NoAttr K (He.ga K "Form") "terms" := He.noat_ok (L.c.fact 61 rfl)
theorem Lw.cr_Form (L : Lw K mg) : ClX.CRead K (He.ga K "Form") (.type "type") := cread_ok (L.c.fact 62 rfl)
theorem Lw.sm_Form_made (L : Lw K mg) : SMet K (He.ga K "Form") "made" (He.ma K (He.ga K "Form") "made") (He5.wf K (He.ga K "Form") "staticmethod" "made") := smet_ok (L.c.fact 63 rfl)
theorem Lw.me_FormD_addD (L : Lw K mg) : Meth K (He.ga K "Form") "__add__" (He.ma K (He.ga K "Form") "__add__") := He.meth_ok (L.c.fact 64 rfl)
theorem Lw.me_FormD_mulD (L : Lw K mg) : Meth K (He.ga K "Form") "__mul__" (He.ma K (He.ga K "Form") "__mul__") := He.meth_ok (L.c.fact 65 rfl)
theorem Lw.me_Form_scaled (L : Lw K mg) : Meth K (He.ga K "Form") "scaled" (He.ma K (He.ga K "Form") "scaled") := He.meth_ok (L.c.fact 66 rfl)
theorem Lw.me_Form_top_part (L : Lw K mg) : Meth K (He.ga K "Form") "top_part" (He.ma K (He.ga K "Form") "top_part") := He.meth_ok (L.c.fact 67 rfl)
theorem Lw.me_FormD_negD (L : Lw K mg) : Meth K (He.ga K "Form") "__neg__" (He.ma K (He.ga K "Form") "__neg__") := He.meth_ok (L.c.fact 68 rfl)
theorem Lw.me_FormD_subD (L : Lw K mg) : Meth K (He.ga K "Form") "__sub__" (He.ma K (He.ga K "Form") "__sub__") := He.meth_ok (L.c.fact 69 rfl)
theorem Lw.ox_BadSize (L : Lw K mg) : OexC K (He.ga K "BadSize") ∧ PySem.W.findIn K (.ref (He.ga K "BadSize")) "__init__" = some (some (.ref (He.ma K (He.ga K "BadSize") "__init__"))) ∧ PySem.W.typeIn K (.ref (He.ma K (He.ga K "BadSize") "__init__")) = some (.type "function") := oex_ok (L.c.fact 70 rfl)
theorem Lw.na_BadSize_size (L : Lw K mg) : NoAttr K (He.ga K "BadSize") "size" := He.noat_ok (L.c.fact 71 rfl)
theorem Lw.ox_OutOfBounds (L : Lw K mg) : OexC K (He.ga K "OutOfBounds") ∧ PySem.W.findIn K (.ref (He.ga K "OutOfBounds")) "__init__" = some (some (.ref (He.ma K (He.ga K "OutOfBounds") "__init__"))) ∧ PySem.W.typeIn K (.ref (He.ma K (He.ga K "OutOfBounds") "__init__")) = some (.type "function") := oex_ok (L.c.fact 72 rfl)
theorem Lw.na_OutOfBounds_value (L : Lw K mg) : NoAttr K (He.ga K "OutOfBounds") "value" := He.noat_ok (L.c.fact 73 rfl)
theorem Lw.e0_ZeroBottom (L : Lw K mg) : PySem.W.excIn K (He.ga K "ZeroBottom") He.veBase "ValueError.__new__" = true ∧ PySem.W.keepIn K (.ref (He.ga K "ZeroBottom")) = true ∧ PySem.W.subIn K (.ref (He.ga K "ZeroBottom")) (.type "BaseException") = some true ∧ PySem.W.typeIn K (.ref (He.ga K "ZeroBottom")) = some (.type "type") := He.exc_ok (L.c.fact 74 rfl)
theorem Lw.xi_ZeroBottom (L : Lw K mg) : PySem.W.excIn K (He.ga K "ZeroBottom") He.veBase "ValueError.__new__" = true := (L.e0_ZeroBottom).1
theorem Lw.kp_ZeroBottom (L : Lw K mg) : PySem.W.keepIn K (.ref (He.ga K "ZeroBottom")) = true := (L.e0_ZeroBottom).2.1
theorem Lw.xb_ZeroBottom (L : Lw K mg) : PySem.W.subIn K (.ref (He.ga K "ZeroBottom")) (.type "BaseException") = some true := (L.e0_ZeroBottom).2.2.1
theorem Lw.xt_ZeroBottom (L : Lw K mg) : PySem.W.typeIn K (.ref (He.ga K "ZeroBottom")) = some (.type "type") := (L.e0_ZeroBottom).2.2.2
theorem Lw.kt_Ratio_Ratio (L : Lw K mg) : PySem.W.kitOne K (.ref (He.ga K "Ratio")) (.ref (He.ga K "Ratio")) = some true := of_decide_eq_true (L.c.fact 75 rfl)
theorem Lw.kt_Form_Form (L : Lw K mg) : PySem.W.kitOne K (.ref (He.ga K "Form")) (.ref (He.ga K "Form")) = some true := of_decide_eq_true (L.c.fact 76 rfl)
theorem Lw.d_RatioD_initD (L : Lw K mg) : ∃ fd, FunD K "__init__" "Ratio.__init__" (defArgs s_RatioD_initD) (defBody s_RatioD_initD) (defScope s_RatioD_initD) (df_RatioD_initD.dvs K) (df_RatioD_initD.kws K) (He.fAd K ("Ratio", some "__init__")) fd := L.c.def_ 0 (d := df_RatioD_initD) rfl
theorem Lw.d_RatioD_addD (L : Lw K mg) : ∃ fd, FunD K "__add__" "Ratio.__add__" (defArgs s_RatioD_addD) (defBody s_RatioD_addD) (defScope s_RatioD_addD) (df_RatioD_addD.dvs K) (df_RatioD_addD.kws K) (He.fAd K ("Ratio", some "__add__")) fd := L.c.def_ 1 (d := df_RatioD_addD) rfl
theorem Lw.d_OutOfBoundsD_initD (L : Lw K mg) : ∃ fd, FunD K "__init__" "OutOfBounds.__init__" (defArgs s_OutOfBoundsD_initD) (defBody s_OutOfBoundsD_initD) (defScope s_OutOfBoundsD_initD) (df_OutOfBoundsD_initD.dvs K) (df_OutOfBoundsD_initD.kws K) (He.fAd K ("OutOfBounds", some "__init__")) fd := L.c.def_ 2 (d := df_OutOfBoundsD_initD) rfl
theorem Lw.d_check_number (L : Lw K mg) : ∃ fd, FunD K "check_number" "check_number" (defArgs s_check_number) (defBody s_check_number) (defScope s_check_number) (df_check_number.dvs K) (df_check_number.kws K) (He.fAd K ("check_number", none)) fd := L.c.def_ 3 (d := df_check_number) rfl
theorem Lw.d_BadSizeD_initD (L : Lw K mg) : ∃ fd, FunD K "__init__" "BadSize.__init__" (defArgs s_BadSizeD_initD) (defBody s_BadSizeD_initD) (defScope s_BadSizeD_initD) (df_BadSizeD_initD.dvs K) (df_BadSizeD_initD.kws K) (He.fAd K ("BadSize", some "__init__")) fd := L.c.def_ 4 (d := df_BadSizeD_initD) rfl
theorem Lw.d_check_size (L : Lw K mg) : ∃ fd, FunD K "check_size" "check_size" (defArgs s_check_size) (defBody s_check_size) (defScope s_check_size) (df_check_size.dvs K) (df_check_size.kws K) (He.fAd K ("check_size", none)) fd := L.c.def_ 5 (d := df_check_size) rfl
theorem Lw.d_ordered_terms (L : Lw K mg) : ∃ fd, FunD K "ordered_terms" "ordered_terms" (defArgs s_ordered_terms) (defBody s_ordered_terms) (defScope s_ordered_terms) (df_ordered_terms.dvs K) (df_ordered_terms.kws K) (He.fAd K ("ordered_terms", none)) fd := L.c.def_ 6 (d := df_ordered_terms) rfl
theorem Lw.d_collected_terms (L : Lw K mg) : ∃ fd, FunD K "collected_terms" "collected_terms" (defArgs s_collected_terms) (defBody s_collected_terms) (defScope s_collected_terms) (df_collected_terms.dvs K) (df_collected_terms.kws K) (He.fAd K ("collected_terms", none)) fd := L.c.def_ 7 (d := df_collected_terms) rfl
theorem Lw.d_FormD_initD (L : Lw K mg) : ∃ fd, FunD K "__init__" "Form.__init__" (defArgs s_FormD_initD) (defBody s_FormD_initD) (defScope s_FormD_initD) (df_FormD_initD.dvs K) (df_FormD_initD.kws K) (He.fAd K ("Form", some "__init__")) fd := L.c.def_ 8 (d := df_FormD_initD) rfl
theorem Lw.d_Form_made (L : Lw K mg) : ∃ fd, FunD K "made" "Form.made" (defArgs s_Form_made) (defBody s_Form_made) (defScope s_Form_made) (df_Form_made.dvs K) (df_Form_made.kws K) (He5.wf K (He.ga K "Form") "staticmethod" "made") fd := L.c.def_ 9 (d := df_Form_made) rfl
theorem Lw.d_FormD_addD (L : Lw K mg) : ∃ fd, FunD K "__add__" "Form.__add__" (defArgs s_FormD_addD) (defBody s_FormD_addD) (defScope s_FormD_addD) (df_FormD_addD.dvs K) (df_FormD_addD.kws K) (He.fAd K ("Form", some "__add__")) fd := L.c.def_ 10 (d := df_FormD_addD) rfl
theorem Lw.d_form_over (L : Lw K mg) : ∃ fd, FunD K "form_over" "form_over" (defArgs s_form_over) (defBody s_form_over) (defScope s_form_over) (df_form_over.dvs K) (df_form_over.kws K) (He.fAd K ("form_over", none)) fd := L.c.def_ 11 (d := df_form_over) rfl
theorem Lw.d_table_product (L : Lw K mg) : ∃ fd, FunD K "table_product" "table_product" (defArgs s_table_product) (defBody s_table_product) (defScope s_table_product) (df_table_product.dvs K) (df_table_product.kws K) (He.fAd K ("table_product", none)) fd := L.c.def_ 12 (d := df_table_product) rfl
theorem Lw.d_whole_terms (L : Lw K mg) : ∃ fd, FunD K "whole_terms" "whole_terms" (defArgs s_whole_terms) (defBody s_whole_terms) (defScope s_whole_terms) (df_whole_terms.dvs K) (df_whole_terms.kws K) (He.fAd K ("whole_terms", none)) fd := L.c.def_ 13 (d := df_whole_terms) rfl
theorem Lw.d_FormD_mulD (L : Lw K mg) : ∃ fd, FunD K "__mul__" "Form.__mul__" (defArgs s_FormD_mulD) (defBody s_FormD_mulD) (defScope s_FormD_mulD) (df_FormD_mulD.dvs K) (df_FormD_mulD.kws K) (He.fAd K ("Form", some "__mul__")) fd := L.c.def_ 14 (d := df_FormD_mulD) rfl
theorem Lw.d_RatioD_mulD (L : Lw K mg) : ∃ fd, FunD K "__mul__" "Ratio.__mul__" (defArgs s_RatioD_mulD) (defBody s_RatioD_mulD) (defScope s_RatioD_mulD) (df_RatioD_mulD.dvs K) (df_RatioD_mulD.kws K) (He.fAd K ("Ratio", some "__mul__")) fd := L.c.def_ 15 (d := df_RatioD_mulD) rfl
theorem Lw.d_Form_scaled (L : Lw K mg) : ∃ fd, FunD K "scaled" "Form.scaled" (defArgs s_Form_scaled) (defBody s_Form_scaled) (defScope s_Form_scaled) (df_Form_scaled.dvs K) (df_Form_scaled.kws K) (He.fAd K ("Form", some "scaled")) fd := L.c.def_ 16 (d := df_Form_scaled) rfl
theorem Lw.d_Form_top_part (L : Lw K mg) : ∃ fd, FunD K "top_part" "Form.top_part" (defArgs s_Form_top_part) (defBody s_Form_top_part) (defScope s_Form_top_part) (df_Form_top_part.dvs K) (df_Form_top_part.kws K) (He.fAd K ("Form", some "top_part")) fd := L.c.def_ 17 (d := df_Form_top_part) rfl
theorem Lw.d_law_in_order (L : Lw K mg) : ∃ fd, FunD K "_law_in_order" "_law_in_order" (defArgs s_law_in_order) (defBody s_law_in_order) (defScope s_law_in_order) (df_law_in_order.dvs K) (df_law_in_order.kws K) (He.fAd K ("_law_in_order", none)) fd := L.c.def_ 18 (d := df_law_in_order) rfl
theorem Lw.d_law_degree (L : Lw K mg) : ∃ fd, FunD K "_law_degree" "_law_degree" (defArgs s_law_degree) (defBody s_law_degree) (defScope s_law_degree) (df_law_degree.dvs K) (df_law_degree.kws K) (He.fAd K ("_law_degree", none)) fd := L.c.def_ 19 (d := df_law_degree) rfl
theorem Lw.d_law_draw (L : Lw K mg) : ∃ fd, FunD K "_law_draw" "_law_draw" (defArgs s_law_draw) (defBody s_law_draw) (defScope s_law_draw) (df_law_draw.dvs K) (df_law_draw.kws K) (He.fAd K ("_law_draw", none)) fd := L.c.def_ 20 (d := df_law_draw) rfl
theorem Lw.d_law_drawn (L : Lw K mg) : ∃ fd, FunD K "_law_drawn" "_law_drawn" (defArgs s_law_drawn) (defBody s_law_drawn) (defScope s_law_drawn) (df_law_drawn.dvs K) (df_law_drawn.kws K) (He.fAd K ("_law_drawn", none)) fd := L.c.def_ 21 (d := df_law_drawn) rfl
theorem Lw.d_law_gcd (L : Lw K mg) : ∃ fd, FunD K "_law_gcd" "_law_gcd" (defArgs s_law_gcd) (defBody s_law_gcd) (defScope s_law_gcd) (df_law_gcd.dvs K) (df_law_gcd.kws K) (He.fAd K ("_law_gcd", none)) fd := L.c.def_ 22 (d := df_law_gcd) rfl
theorem Lw.d_law_sum (L : Lw K mg) : ∃ fd, FunD K "_law_sum" "_law_sum" (defArgs s_law_sum) (defBody s_law_sum) (defScope s_law_sum) (df_law_sum.dvs K) (df_law_sum.kws K) (He.fAd K ("_law_sum", none)) fd := L.c.def_ 23 (d := df_law_sum) rfl
theorem Lw.d_law_turned (L : Lw K mg) : ∃ fd, FunD K "_law_turned" "_law_turned" (defArgs s_law_turned) (defBody s_law_turned) (defScope s_law_turned) (df_law_turned.dvs K) (df_law_turned.kws K) (He.fAd K ("_law_turned", none)) fd := L.c.def_ 24 (d := df_law_turned) rfl
theorem Lw.d_law_forms (L : Lw K mg) : ∃ fd, FunD K "_law_forms" "_law_forms" (defArgs s_law_forms) (defBody s_law_forms) (defScope s_law_forms) (df_law_forms.dvs K) (df_law_forms.kws K) (He.fAd K ("_law_forms", none)) fd := L.c.def_ 25 (d := df_law_forms) rfl
theorem Lw.d_law_whole (L : Lw K mg) : ∃ fd, FunD K "_law_whole" "_law_whole" (defArgs s_law_whole) (defBody s_law_whole) (defScope s_law_whole) (df_law_whole.dvs K) (df_law_whole.kws K) (He.fAd K ("_law_whole", none)) fd := L.c.def_ 26 (d := df_law_whole) rfl
theorem Lw.d_law_is_ratio (L : Lw K mg) : ∃ fd, FunD K "_law_is_ratio" "_law_is_ratio" (defArgs s_law_is_ratio) (defBody s_law_is_ratio) (defScope s_law_is_ratio) (df_law_is_ratio.dvs K) (df_law_is_ratio.kws K) (He.fAd K ("_law_is_ratio", none)) fd := L.c.def_ 27 (d := df_law_is_ratio) rfl
theorem Lw.d_law_is_row (L : Lw K mg) : ∃ fd, FunD K "_law_is_row" "_law_is_row" (defArgs s_law_is_row) (defBody s_law_is_row) (defScope s_law_is_row) (df_law_is_row.dvs K) (df_law_is_row.kws K) (He.fAd K ("_law_is_row", none)) fd := L.c.def_ 28 (d := df_law_is_row) rfl
theorem Lw.d_law_is_form (L : Lw K mg) : ∃ fd, FunD K "_law_is_form" "_law_is_form" (defArgs s_law_is_form) (defBody s_law_is_form) (defScope s_law_is_form) (df_law_is_form.dvs K) (df_law_is_form.kws K) (He.fAd K ("_law_is_form", none)) fd := L.c.def_ 29 (d := df_law_is_form) rfl
theorem Lw.d_law_made (L : Lw K mg) : ∃ fd, FunD K "_law_made" "_law_made" (defArgs s_law_made) (defBody s_law_made) (defScope s_law_made) (df_law_made.dvs K) (df_law_made.kws K) (He.fAd K ("_law_made", none)) fd := L.c.def_ 30 (d := df_law_made) rfl
theorem Lw.d_law_product (L : Lw K mg) : ∃ fd, FunD K "_law_product" "_law_product" (defArgs s_law_product) (defBody s_law_product) (defScope s_law_product) (df_law_product.dvs K) (df_law_product.kws K) (He.fAd K ("_law_product", none)) fd := L.c.def_ 31 (d := df_law_product) rfl
theorem Lw.d_law_scale (L : Lw K mg) : ∃ fd, FunD K "_law_scale" "_law_scale" (defArgs s_law_scale) (defBody s_law_scale) (defScope s_law_scale) (df_law_scale.dvs K) (df_law_scale.kws K) (He.fAd K ("_law_scale", none)) fd := L.c.def_ 32 (d := df_law_scale) rfl
theorem Lw.d_law_top_of (L : Lw K mg) : ∃ fd, FunD K "_law_top_of" "_law_top_of" (defArgs s_law_top_of) (defBody s_law_top_of) (defScope s_law_top_of) (df_law_top_of.dvs K) (df_law_top_of.kws K) (He.fAd K ("_law_top_of", none)) fd := L.c.def_ 33 (d := df_law_top_of) rfl
theorem Lw.d_RatioD_negD (L : Lw K mg) : ∃ fd, FunD K "__neg__" "Ratio.__neg__" (defArgs s_RatioD_negD) (defBody s_RatioD_negD) (defScope s_RatioD_negD) (df_RatioD_negD.dvs K) (df_RatioD_negD.kws K) (He.fAd K ("Ratio", some "__neg__")) fd := L.c.def_ 34 (d := df_RatioD_negD) rfl
theorem Lw.d_FormD_negD (L : Lw K mg) : ∃ fd, FunD K "__neg__" "Form.__neg__" (defArgs s_FormD_negD) (defBody s_FormD_negD) (defScope s_FormD_negD) (df_FormD_negD.dvs K) (df_FormD_negD.kws K) (He.fAd K ("Form", some "__neg__")) fd := L.c.def_ 35 (d := df_FormD_negD) rfl
theorem Lw.d_FormD_subD (L : Lw K mg) : ∃ fd, FunD K "__sub__" "Form.__sub__" (defArgs s_FormD_subD) (defBody s_FormD_subD) (defScope s_FormD_subD) (df_FormD_subD.dvs K) (df_FormD_subD.kws K) (He.fAd K ("Form", some "__sub__")) fd := L.c.def_ 36 (d := df_FormD_subD) rfl
theorem Lw.d_law_tops_hold (L : Lw K mg) : ∃ fd, FunD K "_law_tops_hold" "_law_tops_hold" (defArgs s_law_tops_hold) (defBody s_law_tops_hold) (defScope s_law_tops_hold) (df_law_tops_hold.dvs K) (df_law_tops_hold.kws K) (He.fAd K ("_law_tops_hold", none)) fd := L.c.def_ 37 (d := df_law_tops_hold) rfl
theorem Lw.d_law (L : Lw K mg) : ∃ fd, FunD K "law" "law" (defArgs s_law) (defBody s_law) (defScope s_law) (df_law.dvs K) (df_law.kws K) (He.fAd K ("law", none)) fd := L.c.def_ 38 (d := df_law) rfl
end
end T
set_option maxHeartbeats 0
namespace T
open PySem PySem.W PySem.Calls PySem.Spec PyProof.Rows L2 Z
abbrev R : PySem.W.OpenRow := PySem.W.OpenLaw.row PySem.Challenge.rw_belownought_k15_top_parts_of_squares
abbrev hk : PySem.W.Hook := hookZ3 6 fb fn
def ob (st : PySem.W.SharedT) : SeenZ := seenG3 6 fb fn (HandSHeadRun.getT st)
theorem ob_eq (st : PySem.W.SharedT) : ob st = hk.obs st.abs := seenG3_eq (HandSHeadRun.getT_eq st)
def loose : List Str := (["_wall", "__name__", "NoughtError", "ZeroBottom", "BadText", "OutOfBounds", "BadSize", "check_number", "check_size", "Ratio", "read_whole", "read_fraction", "joined_terms", "split_terms", "split_body", "LETTERS", "MOST_EXPONENT", "written_form", "written_word", "read_form", "comes_before", "read_word", "digits_end", "power_row", "Form", "collected_terms", "ordered_terms", "one_exponent", "form_over", "whole_terms"] : List Str) ++ (["table_product", "greatest_exponents", "divided_terms", "_law_draw", "_law_whole", "_law_gcd", "_law_is_ratio", "_law_is_row", "_law_product", "_law_in_order", "_law_is_form", "_law_made", "_law_sum", "_law_scale", "_law_top_of", "_law_degree", "_law_drawn", "_law_turned", "_law_forms", "_law_tops_hold"] : List Str)
theorem runA (w : World) : (HandSHeadRun.wholeF (fun p => HandSHeadRun.stepQ (HandSHeadRun.denQ HandSHeadRun.tabQ) p w) HandSHeadRun.fenceQ 12000 R.prog).map (fun x => HandSHeadRun.looksF R.prog x.1.heap x.2.abs) = some true := by
  kernel_rfl
theorem runB (w : World) : (HandSHeadRun.wholeF (fun p => HandSHeadRun.stepQ (HandSHeadRun.denQ HandSHeadRun.tabQ) p w) HandSHeadRun.fenceQ 12000 R.prog).map (fun x => HandSHeadRun.seenQ (PySem.W.view R.prog [0, 57]) loose (importedModules R.prog.main.body) (fun s => PySem.W.xlAt (PySem.W.view R.prog [0, 57]) [] s && PySem.W.recOk R.toRowW.records s) x.2.abs) = some (PySem.W.openGood (PySem.W.view R.prog [0, 57]) loose) := by
  kernel_rfl
def fb0 : List Chk := [cGlo "BadSize", cGlo "Form", cGlo "OutOfBounds", cGlo "Ratio", cGlo "ZeroBottom", cGlo "_law_degree", cGlo "_law_draw", cGlo "_law_drawn", cGlo "_law_forms", cGlo "_law_gcd", cGlo "_law_in_order", cGlo "_law_is_form", cGlo "_law_is_ratio", cGlo "_law_is_row", cGlo "_law_made", cGlo "_law_product", cGlo "_law_scale", cGlo "_law_sum", cGlo "_law_top_of", cGlo "_law_tops_hold", cGlo "_law_turned", cGlo "_law_whole", cGlo "check_number", cGlo "check_size", cGlo "collected_terms", cGlo "form_over", cGlo "law", cGlo "ordered_terms", cGlo "table_product", cGlo "whole_terms", cFree "abs", cFree "all", cFree "bool", cVal "gcd" "math.gcd", cFree "int", cFree "isinstance", cVal "lcm" "math.lcm", cFree "len"]
def fn0 : List He5.DefA := [df_RatioD_initD, df_RatioD_addD, df_OutOfBoundsD_initD, df_check_number, df_BadSizeD_initD, df_check_size, df_ordered_terms, df_collected_terms, df_FormD_initD, df_Form_made, df_FormD_addD, df_form_over, df_table_product, df_whole_terms, df_FormD_mulD, df_RatioD_mulD, df_Form_scaled, df_Form_top_part, df_law_in_order]
theorem runC0 (w : World) : (HandSHeadRun.wholeF (fun p => HandSHeadRun.stepQ (HandSHeadRun.denQ HandSHeadRun.tabQ) p w) HandSHeadRun.fenceQ 12000 R.prog).map (fun x => seenG3 6 fb0 fn0 (HandSHeadRun.getT x.2)) = some (dueK2 fn0) := by
  kernel_rfl
def fb1 : List Chk := [cFree "list", cFree "max", cFree "range", cFree "sorted", cFree "staticmethod", cFree "sum", cFree "tuple", cFree "zip", cCls "Ratio", cIns "Ratio", cMk "Ratio", cSelf "Ratio", cNo "Ratio" "bottom", cNo "Ratio" "top", cMeth "Ratio" "__add__", cMeth "Ratio" "__mul__", cMeth "Ratio" "__neg__", cCls "Form", cIns "Form", cMk "Form", cSelf "Form", cNo "Form" "degree", cNo "Form" "letters", cNo "Form" "terms", cRead "Form", cStat "Form" "made", cMeth "Form" "__add__", cMeth "Form" "__mul__", cMeth "Form" "scaled", cMeth "Form" "top_part", cMeth "Form" "__neg__", cMeth "Form" "__sub__", cOex "BadSize", cNo "BadSize" "size", cOex "OutOfBounds", cNo "OutOfBounds" "value", cExc0 "ZeroBottom", cKit "Ratio" "Ratio" true, cKit "Form" "Form" true]
def fn1 : List He5.DefA := [df_law_degree, df_law_draw, df_law_drawn, df_law_gcd, df_law_sum, df_law_turned, df_law_forms, df_law_whole, df_law_is_ratio, df_law_is_row, df_law_is_form, df_law_made, df_law_product, df_law_scale, df_law_top_of, df_RatioD_negD, df_FormD_negD, df_FormD_subD, df_law_tops_hold, df_law]
theorem runC1 (w : World) : (HandSHeadRun.wholeF (fun p => HandSHeadRun.stepQ (HandSHeadRun.denQ HandSHeadRun.tabQ) p w) HandSHeadRun.fenceQ 12000 R.prog).map (fun x => seenG3 6 fb1 fn1 (HandSHeadRun.getT x.2)) = some (dueK2 fn1) := by
  kernel_rfl
theorem runC (w : World) : (HandSHeadRun.wholeF (fun p => HandSHeadRun.stepQ (HandSHeadRun.denQ HandSHeadRun.tabQ) p w) HandSHeadRun.fenceQ 12000 R.prog).map (fun x => ob x.2) = some (dueK2 fn) := by
  have e1 : fb = fb0 ++ (fb1) := rfl
  have e2 : fn = fn0 ++ (fn1) := rfl
  unfold ob
  rw [e1, e2]
  exact (seen_both3 (runC0 w) (runC1 w))
theorem run (w : World) : HandSHeadRun.RunEqI R (PySem.W.view R.prog [0, 57]) hk ob 12000 loose w := map_three (runA w) (runB w) (runC w)
end T
set_option maxHeartbeats 4000000
namespace T
open PySem PySem.Spec PyProof.Rows L2 Z
local macro_rules | `(tactic| walk_at "up") => `(tactic| first
  | assumption
  | (refine' IsR.mono (by assumption) ?zup; case zup => walk_at "up")
  | (refine' IsE.mono (by assumption) ?zup; case zup => walk_at "up")
  | (refine' Same.at (by assumption) ?zup; case zup => walk_at "up")
  | (refine' SqL.of ?zup; case zup => walk_at "up")
  | (refine' L2.Same.seq (by assumption) ?zup; case zup => walk_at "up"))
local macro_rules | `(tactic| walk_at "z") => `(tactic| first
  | ((with_reducible refine' z_var ?zvh ?_); (case zvh => exact rfl))
  | with_reducible refine z_c ?_
  | with_reducible refine z_cons ?_
  | with_reducible refine z_nil ?_
  | with_reducible refine z_op ?_
  | with_reducible refine z_nx ?_
  | with_reducible refine z_seq ?_
  | with_reducible refine z_asg ?_
  | with_reducible refine z_asgG ?_
  | with_reducible refine z_call ?_
  | with_reducible refine z_sq0 ?_
  | with_reducible refine z_sq1 ?_
  | with_reducible refine z_ifS ?_
  | with_reducible refine z_test ?_
  | with_reducible refine z_tb ?_
  | with_reducible refine z_bl ?_
  | with_reducible refine z_blI ?_
  | with_reducible refine z_ret ?_
  | with_reducible refine z_rt ?_
  | with_reducible refine z_T ?_
  | with_reducible refine z_F ?_
  | with_reducible refine z_add ?_
  | with_reducible refine z_sub ?_
  | with_reducible refine z_neg ?_
  | with_reducible refine z_un ?_
  | with_reducible refine z_eqI ?_
  | with_reducible refine z_neI ?_
  | with_reducible refine z_lt ?_
  | with_reducible refine z_le ?_
  | with_reducible refine z_gt ?_
  | with_reducible refine z_ge ?_
  | with_reducible refine z_not ?_
  | with_reducible refine z_and ?_
  | with_reducible refine z_or ?_
  | with_reducible refine z_andV ?_
  | with_reducible refine z_orV ?_
  | with_reducible refine z_notV ?_
  | with_reducible refine z_if ?_
  | with_reducible refine z_cb ?_
  | with_reducible refine z_int1 ?_
  | with_reducible refine z_intb ?_
  | with_reducible refine z_abs ?_
  | with_reducible refine z_gcd ?_
  | with_reducible refine z_isi_ii ?_
  | with_reducible refine z_isi_ib ?_
  | with_reducible refine z_next ?_
  | with_reducible refine z_drop ?_
  | with_reducible refine z_par ?_
  | with_reducible refine z_par2 ?_
  | with_reducible refine z_tupN ?_
  | with_reducible refine z_lstN ?_
  | ((with_reducible refine' z_nt ?zl1 ?_); (case zl1 => exact Nat.le_of_ble_eq_true rfl); intro p H' hp hs he)
  | ((with_reducible refine' z_gtup ?zl1 ?zl2 ?_); (case zl1 => walk_at "up"); (case zl2 => exact rfl))
  | with_reducible refine z_bk ?_
  | with_reducible refine z_ct ?_
  | with_reducible refine z_break ?_
  | with_reducible refine z_cont ?_
  | with_reducible refine z_retN ?_
  | with_reducible refine z_nn ?_
  | with_reducible refine z_mk ?_
  | with_reducible refine z_gn ?_
  | with_reducible refine z_gcons ?_
  | with_reducible refine z_gnil ?_
  | with_reducible refine z_mt ?_
  | with_reducible refine z_mko ?_
  | with_reducible refine z_for2 ?_
  | with_reducible refine z_ownI ?_
  | ((with_reducible refine' z_lenL ?zl1 ?_); (case zl1 => walk_at "up"))
  | ((with_reducible refine' z_ixT ?zl1 ?zl2 ?_); (case zl1 => walk_at "up"); (case zl2 => exact rfl))
  | ((with_reducible refine' z_mulL ?zl1 ?zl2 ?_); (case zl1 => omega); (case zl2 => omega))
  | ((with_reducible refine' z_mulR ?zl1 ?zl2 ?_); (case zl1 => omega); (case zl2 => omega))
  | ((with_reducible refine' z_divS ?zl1 ?zl2 ?_); (case zl1 => omega); (case zl2 => omega))
  | ((with_reducible refine' z_mulW ?zl1 ?zl2 ?zl3 ?zl4 ?_); (case zl1 => omega); (case zl2 => omega); (case zl3 => omega); (case zl4 => omega))
  | ((with_reducible refine' z_divW ?zl1 ?zl2 ?_); (case zl1 => omega); (case zl2 => omega)))
local macro_rules | `(tactic| walk_at "zz") => `(tactic| repeat (walk_at "z"))
local macro_rules | `(tactic| walk_at "z") => `(tactic| ((with_reducible refine' z_fldt ?zc1 ?zc2 ?zl1 ?zl2 ?_); (case zc1 => exact Lw.cl_Ratio (by assumption)); (case zc2 => exact Lw.na_Ratio_top (by assumption)); (case zl1 => exact rfl); (case zl2 => walk_at "up")))
local macro_rules | `(tactic| walk_at "z") => `(tactic| ((with_reducible refine' z_fldb ?zc1 ?zc2 ?zl1 ?zl2 ?_); (case zc1 => exact Lw.cl_Ratio (by assumption)); (case zc2 => exact Lw.na_Ratio_bottom (by assumption)); (case zl1 => exact rfl); (case zl2 => walk_at "up")))
section
variable {P : Program} {w : World} {K : Frag} {mg : Str → Option Value} {base : Heap}
theorem ok_RatioD_initD (L : Lw K mg) {fd : FuncData} (F : FunD K "__init__" "Ratio.__init__" (defArgs s_RatioD_initD) (defBody s_RatioD_initD) (defScope s_RatioD_initD) (df_RatioD_initD.dvs K) (df_RatioD_initD.kws K) (He.fAd K ("Ratio", some "__init__")) fd) : FnOk P w K mg base (L2N.CX P w) 1 (He.fAd K ("Ratio", some "__init__")) fd (["self", "top", "bottom"] : List Str) (sp3 (fs_rinit K)) := by
  refine FunD.ok F sc_RatioD_initD len3 (fun cdv A outer s H vs Q E hr h => ?_)
  obtain ⟨a, b, c, rfl, h⟩ := h
  refine ⟨_, (pss_cons (ps_if (pt_cmpR op_eq (pv 2) pe_int (nomark _)) (pss_one (L2N.ps_raise rfl (L2N.takes_of rfl rfl rfl rfl) (pmk_x0 PySem.F.excBase_ValueError L.xi_ZeroBottom L.g_ZeroBottom L.kp_ZeroBottom (raises_own L.xb_ZeroBottom L.xt_ZeroBottom)))) pss_nil)
    (pss_cons (ps_set (i := 3) sc_RatioD_initD.nd rfl (by first | exact Or.inl rfl | exact Or.inr rfl) (pe_callBfun cr_gcd rfl L.v_gcd (pa_cons (pv 1) (pa_cons (pv 2) pa_nil))))
    (pss_cons (ps_if (pt_cmpR o_lt (pv 2) pe_int (nomark _)) (pss_one (ps_set (i := 3) sc_RatioD_initD.nd rfl (by first | exact Or.inl rfl | exact Or.inr rfl) (pe_un o_neg (pv 3)))) pss_nil)
    (pss_cons (ps_fld (pv 0) (pe_op o_div (pv 1) (pv 3)) rfl)
    (pss_one (ps_fld (pv 0) (pe_op o_div (pv 2) (pv 3)) rfl)))))), ?_⟩
  obtain ⟨x, dx, H0, n, d, rfl, rfl, rfl, rfl, hx, hdx, ne, hb, k, kz⟩ := h
  walk_at "zz"
  have sm : Same H0 (upd (upd H0 dx (.own x)) x (.ins (He.ga K "Ratio") dx [])) := fun y o hy => by
    rw [upd_ne (ne_of_none hy hx), upd_ne (ne_of_none hy hdx)]
    exact hy
  refine z_d2 (fun c => kz c _ sm) (fun c => ?_)
  have hc := rc_bits (n := n) c hb
  have hc0 := rc_ne (n := n) c
  walk_at "zz"
  refine z_d2 (fun c2 => ?_) (fun c2 => ?_)
  · walk_at "zz"
    have e : rc n d = -((Int.gcd n d : Nat) : Int) := by unfold rc; rw [if_pos c2]
    rw [e] at hc hc0
    refine run_rinit (a := .int (rt n d)) (b := .int (rb n d)) L.cl_Ratio L.na_Ratio_top L.na_Ratio_bottom hx hdx ne rfl (fun H1 Q1 q1 => ?_) (fun H1 Q1 q1 => ?_) (fun H' e1 e2 => k c H' e1 ⟨dx, e2⟩)
    · walk_at "zz"
      refine z_divN hc0 hc (by decide) (by decide) ?_
      unfold rt at q1
      rw [e] at q1
      exact q1
    · walk_at "zz"
      refine z_divN hc0 hc (by decide) (by decide) ?_
      unfold rb at q1
      rw [e] at q1
      exact q1
  · walk_at "zz"
    have e : rc n d = ((Int.gcd n d : Nat) : Int) := by unfold rc; rw [if_neg c2]
    rw [e] at hc hc0
    refine run_rinit (a := .int (rt n d)) (b := .int (rb n d)) L.cl_Ratio L.na_Ratio_top L.na_Ratio_bottom hx hdx ne rfl (fun H1 Q1 q1 => ?_) (fun H1 Q1 q1 => ?_) (fun H' e1 e2 => k c H' e1 ⟨dx, e2⟩)
    · walk_at "zz"
      refine z_divN hc0 hc (by decide) (by decide) ?_
      unfold rt at q1
      rw [e] at q1
      exact q1
    · walk_at "zz"
      refine z_divN hc0 hc (by decide) (by decide) ?_
      unfold rb at q1
      rw [e] at q1
      exact q1
theorem c_RatioD_initD (L : Lw K mg) : Mak P w K mg base 1 "Ratio" (He.ga K "Ratio") (sp3 (fs_rinit K)) [] := by
  obtain ⟨fd, F⟩ := L.d_RatioD_initD
  obtain ⟨ds, vds, bds⟩ := F.binds1 (ps := ["self", "top", "bottom"]) 3 1 (by intro z; cases z) rfl (fun _ _ _ _ _ _ _ us its hl hi => match us, its, hl, hi with | [_, _, _], [_], _, _ => ⟨_, rfl, rfl⟩)
  exact ⟨⟨_, fd, ["self", "top", "bottom"], ds, L.mk_Ratio, ok_RatioD_initD L F, L.g_Ratio, bds, vds⟩⟩
end
end T
set_option maxHeartbeats 4000000
namespace T
open PySem PySem.Spec PyProof.Rows L2 Z
local macro_rules | `(tactic| walk_at "up") => `(tactic| first
  | assumption
  | (refine' IsR.mono (by assumption) ?zup; case zup => walk_at "up")
  | (refine' IsE.mono (by assumption) ?zup; case zup => walk_at "up")
  | (refine' Same.at (by assumption) ?zup; case zup => walk_at "up")
  | (refine' SqL.of ?zup; case zup => walk_at "up")
  | (refine' L2.Same.seq (by assumption) ?zup; case zup => walk_at "up"))
local macro_rules | `(tactic| walk_at "z") => `(tactic| first
  | ((with_reducible refine' z_var ?zvh ?_); (case zvh => exact rfl))
  | with_reducible refine z_c ?_
  | with_reducible refine z_cons ?_
  | with_reducible refine z_nil ?_
  | with_reducible refine z_op ?_
  | with_reducible refine z_nx ?_
  | with_reducible refine z_seq ?_
  | with_reducible refine z_asg ?_
  | with_reducible refine z_asgG ?_
  | with_reducible refine z_call ?_
  | with_reducible refine z_sq0 ?_
  | with_reducible refine z_sq1 ?_
  | with_reducible refine z_ifS ?_
  | with_reducible refine z_test ?_
  | with_reducible refine z_tb ?_
  | with_reducible refine z_bl ?_
  | with_reducible refine z_blI ?_
  | with_reducible refine z_ret ?_
  | with_reducible refine z_rt ?_
  | with_reducible refine z_T ?_
  | with_reducible refine z_F ?_
  | with_reducible refine z_add ?_
  | with_reducible refine z_sub ?_
  | with_reducible refine z_neg ?_
  | with_reducible refine z_un ?_
  | with_reducible refine z_eqI ?_
  | with_reducible refine z_neI ?_
  | with_reducible refine z_lt ?_
  | with_reducible refine z_le ?_
  | with_reducible refine z_gt ?_
  | with_reducible refine z_ge ?_
  | with_reducible refine z_not ?_
  | with_reducible refine z_and ?_
  | with_reducible refine z_or ?_
  | with_reducible refine z_andV ?_
  | with_reducible refine z_orV ?_
  | with_reducible refine z_notV ?_
  | with_reducible refine z_if ?_
  | with_reducible refine z_cb ?_
  | with_reducible refine z_int1 ?_
  | with_reducible refine z_intb ?_
  | with_reducible refine z_abs ?_
  | with_reducible refine z_gcd ?_
  | with_reducible refine z_isi_ii ?_
  | with_reducible refine z_isi_ib ?_
  | with_reducible refine z_next ?_
  | with_reducible refine z_drop ?_
  | with_reducible refine z_par ?_
  | with_reducible refine z_par2 ?_
  | with_reducible refine z_tupN ?_
  | with_reducible refine z_lstN ?_
  | ((with_reducible refine' z_nt ?zl1 ?_); (case zl1 => exact Nat.le_of_ble_eq_true rfl); intro p H' hp hs he)
  | ((with_reducible refine' z_gtup ?zl1 ?zl2 ?_); (case zl1 => walk_at "up"); (case zl2 => exact rfl))
  | with_reducible refine z_bk ?_
  | with_reducible refine z_ct ?_
  | with_reducible refine z_break ?_
  | with_reducible refine z_cont ?_
  | with_reducible refine z_retN ?_
  | with_reducible refine z_nn ?_
  | with_reducible refine z_mk ?_
  | with_reducible refine z_gn ?_
  | with_reducible refine z_gcons ?_
  | with_reducible refine z_gnil ?_
  | with_reducible refine z_mt ?_
  | with_reducible refine z_mko ?_
  | with_reducible refine z_for2 ?_
  | with_reducible refine z_ownI ?_
  | ((with_reducible refine' z_lenL ?zl1 ?_); (case zl1 => walk_at "up"))
  | ((with_reducible refine' z_ixT ?zl1 ?zl2 ?_); (case zl1 => walk_at "up"); (case zl2 => exact rfl))
  | ((with_reducible refine' z_mulL ?zl1 ?zl2 ?_); (case zl1 => omega); (case zl2 => omega))
  | ((with_reducible refine' z_mulR ?zl1 ?zl2 ?_); (case zl1 => omega); (case zl2 => omega))
  | ((with_reducible refine' z_divS ?zl1 ?zl2 ?_); (case zl1 => omega); (case zl2 => omega))
  | ((with_reducible refine' z_mulW ?zl1 ?zl2 ?zl3 ?zl4 ?_); (case zl1 => omega); (case zl2 => omega); (case zl3 => omega); (case zl4 => omega))
  | ((with_reducible refine' z_divW ?zl1 ?zl2 ?_); (case zl1 => omega); (case zl2 => omega)))
local macro_rules | `(tactic| walk_at "zz") => `(tactic| repeat (walk_at "z"))
local macro_rules | `(tactic| walk_at "z") => `(tactic| with_reducible refine z_lstN ?_)
local macro_rules | `(tactic| walk_at "z") => `(tactic| with_reducible refine z_p6 ?_)
local macro_rules | `(tactic| walk_at "z") => `(tactic| with_reducible refine z_p12 ?_)
local macro_rules | `(tactic| walk_at "z") => `(tactic| with_reducible refine z_p13 ?_)
local macro_rules | `(tactic| walk_at "z") => `(tactic| with_reducible refine z_calln ?_)
local macro_rules | `(tactic| walk_at "z") => `(tactic| with_reducible refine z_xfS ?_)
local macro_rules | `(tactic| walk_at "z") => `(tactic| with_reducible refine z_lcS ?_)
local macro_rules | `(tactic| walk_at "z") => `(tactic| with_reducible refine z_lcRS ?_)
local macro_rules | `(tactic| walk_at "z") => `(tactic| with_reducible refine z_lcZS ?_)
local macro_rules | `(tactic| walk_at "z") => `(tactic| with_reducible refine z_foS ?_)
local macro_rules | `(tactic| walk_at "z") => `(tactic| with_reducible refine z_for1 ?_)
local macro_rules | `(tactic| walk_at "z") => `(tactic| with_reducible refine z_tsl ?_)
local macro_rules | `(tactic| walk_at "z") => `(tactic| with_reducible refine z_np ?_)
local macro_rules | `(tactic| walk_at "z") => `(tactic| with_reducible refine z_pt ?_)
local macro_rules | `(tactic| walk_at "z") => `(tactic| with_reducible refine z_pti ?_)
local macro_rules | `(tactic| walk_at "z") => `(tactic| with_reducible refine z_catI ?_)
local macro_rules | `(tactic| walk_at "z") => `(tactic| with_reducible refine z_isNI ?_)
local macro_rules | `(tactic| walk_at "z") => `(tactic| with_reducible refine z_isNN ?_)
local macro_rules | `(tactic| walk_at "z") => `(tactic| with_reducible refine z_notNI ?_)
local macro_rules | `(tactic| walk_at "z") => `(tactic| with_reducible refine z_notNN ?_)
local macro_rules | `(tactic| walk_at "z") => `(tactic| with_reducible refine z_gsub ?_)
local macro_rules | `(tactic| walk_at "z") => `(tactic| with_reducible refine z_isNb ?_)
local macro_rules | `(tactic| walk_at "z") => `(tactic| with_reducible refine z_notNb ?_)
local macro_rules | `(tactic| walk_at "z") => `(tactic| ((with_reducible refine' z_nlR ?zl1 ?_); (case zl1 => exact Nat.le_of_ble_eq_true rfl); intro p H' hp hs he))
local macro_rules | `(tactic| walk_at "z") => `(tactic| ((with_reducible refine' z_repR ?zl1 ?zl2 ?_); (case zl1 => omega); (case zl2 => omega)))
local macro_rules | `(tactic| walk_at "z") => `(tactic| ((with_reducible refine' z_repL ?zl1 ?zl2 ?_); (case zl1 => omega); (case zl2 => omega)))
local macro_rules | `(tactic| walk_at "z") => `(tactic| ((with_reducible refine' z_lenLst ?zl1 ?_); (case zl1 => walk_at "up")))
local macro_rules | `(tactic| walk_at "z") => `(tactic| ((with_reducible refine' z_cat ?zl1 ?zl2 ?zl3 ?_); (case zl1 => walk_at "up"); (case zl2 => walk_at "up"); (case zl3 => (simp only [List.length_map, List.length_cons, List.length_nil, List.length_append, List.length_replicate]; omega)); intro p H' hp hs he))
local macro_rules | `(tactic| walk_at "z") => `(tactic| with_reducible refine z_sfl ?_)
local macro_rules | `(tactic| walk_at "z") => `(tactic| with_reducible refine z_lcES ?_)
local macro_rules | `(tactic| walk_at "z") => `(tactic| with_reducible refine z_lcMS ?_)
local macro_rules | `(tactic| walk_at "z") => `(tactic| with_reducible refine z_foES ?_)
local macro_rules | `(tactic| walk_at "z") => `(tactic| with_reducible refine z_fo3S ?_)
local macro_rules | `(tactic| walk_at "z") => `(tactic| with_reducible refine z_sta ?_)
local macro_rules | `(tactic| walk_at "z") => `(tactic| with_reducible refine z_sta1 ?_)
local macro_rules | `(tactic| walk_at "z") => `(tactic| ((with_reducible refine' z_fldt ?zc1 ?zc2 ?zl1 ?zl2 ?_); (case zc1 => exact Lw.cl_Ratio (by assumption)); (case zc2 => exact Lw.na_Ratio_top (by assumption)); (case zl1 => exact rfl); (case zl2 => walk_at "up")))
local macro_rules | `(tactic| walk_at "z") => `(tactic| ((with_reducible refine' z_fldb ?zc1 ?zc2 ?zl1 ?zl2 ?_); (case zc1 => exact Lw.cl_Ratio (by assumption)); (case zc2 => exact Lw.na_Ratio_bottom (by assumption)); (case zl1 => exact rfl); (case zl2 => walk_at "up")))
theorem same30b {H H1 H2 : Hp} (h : Same H1 H2) (e : Same H H1) : Same H H2 := e.trans h
local macro_rules | `(tactic| walk_at "sm") => `(tactic| first
  | assumption
  | exact fun _ _ h => h
  | (refine' same30b (by assumption) ?zsm; case zsm => walk_at "sm"))
local macro_rules | `(tactic| walk_at "up") => `(tactic| first
  | assumption
  | (with_reducible refine' IsR.mono (by assumption) ?zup; case zup => walk_at "up")
  | (with_reducible refine' Same.at (by assumption) ?zup; case zup => walk_at "up")
  | fail)
open S31 (cf)
open S30
/-- a Ratio with the value v -/
def IsV (K : Frag) (H : Hp) (p : Addr) (v : Rat) (B : Nat) : Prop := ∃ t b : Int, IsR K H p t b ∧ 0 < b ∧ Bits B t ∧ Bits B b ∧ (t : Rat) = v * (b : Rat)
theorem IsR.monoN {K : Frag} {H H' : Hp} {a : Addr} {t b : Int} (s : SameN H H') (h : IsR K H a t b) : IsR K H' a t b := h.elim fun dx q => ⟨dx, s _ _ q (fun _ z => nomatch z)⟩
theorem IsV.monoN {K : Frag} {H H' : Hp} {p : Addr} {v : Rat} {B : Nat} (s : SameN H H') (h : IsV K H p v B) : IsV K H' p v B := by
  obtain ⟨t, b, h1, h⟩ := h
  exact ⟨t, b, IsR.monoN s h1, h⟩
theorem IsV.mono {K : Frag} {H H' : Hp} {p : Addr} {v : Rat} {B : Nat} (s : Same H H') (h : IsV K H p v B) : IsV K H' p v B := h.monoN (SameN.of s)
/-- lists of Ratios, of pairs -/
def itR (K : Frag) (v : Sq) (B : Nat) : Hp → V → Nat → Prop := fun H x k => ∃ a, x = .ref a ∧ IsV K H a (v k) B
def itP (v : Sq) (B : Nat) : Hp → V → Nat → Prop := fun H x k => ∃ (a : Addr) (t b : Int), x = .ref a ∧ H a = some (.tup [.int t, .int b]) ∧ 0 < b ∧ Bits B t ∧ Bits B b ∧ (t : Rat) = v k * (b : Rat)
theorem itR_mono {K : Frag} {v : Sq} {B : Nat} : Mono (itR K v B) := fun H H' x k s h => by
  obtain ⟨a, e, h⟩ := h
  exact ⟨a, e, h.monoN s⟩
theorem itP_mono {v : Sq} {B : Nat} : Mono (itP v B) := fun H H' x k s h => by
  obtain ⟨a, t, b, e, h, r⟩ := h
  exact ⟨a, t, b, e, s _ _ h (fun _ z => nomatch z), r⟩
def RL (K : Frag) (H : Hp) (l : Addr) (n : Nat) (v : Sq) (B : Nat) : Prop := Ls H l n (itR K v B)
def PL (H : Hp) (l : Addr) (n : Nat) (v : Sq) (B : Nat) : Prop := Ls H l n (itP v B)
theorem RL.mono {K : Frag} {H H' : Hp} {l : Addr} {n : Nat} {v : Sq} {B : Nat} (s : Same H H') (h : RL K H l n v B) : RL K H' l n v B := Ls.mono itR_mono s h
theorem PL.mono {H H' : Hp} {l : Addr} {n : Nat} {v : Sq} {B : Nat} (s : Same H H') (h : PL H l n v B) : PL H' l n v B := Ls.mono itP_mono s h
/-- a Poly of the numbers ls over o -/
def IsQ (K : Frag) (H : Hp) (p : Addr) (ls : List Int) (o : Int) : Prop := ∃ (dx t : Addr), H p = some (.ins (He.ga K "Poly") dx [("numbers", .ref t), ("over", .int o), ("degree", .int ((ls.length : Int) - 1))]) ∧ H t = some (.tup (ls.map V.int))
theorem IsQ.mono {K : Frag} {H H' : Hp} {p : Addr} {ls : List Int} {o : Int} (s : Same H H') (h : IsQ K H p ls o) : IsQ K H' p ls o := by
  obtain ⟨dx, t, h1, h2⟩ := h
  exact ⟨dx, t, s _ _ h1, s _ _ h2⟩
def fs_cn (K : Frag) : F3 := fun a b c H Q E => ∃ v l : Int, a = .int v ∧ b = .int l ∧ (c = .non ∨ ∃ h, c = .int h) ∧
  ((l ≤ v ∧ ∀ h, c = .int h → v ≤ h) → Q .non H) ∧ (¬ (l ≤ v ∧ ∀ h, c = .int h → v ≤ h) → ∀ d H', Same H H' → H' d = some (.xd [("value", .int v)]) → E (.ref (He.ga K "OutOfBounds")) (some d) H')
def fs_cs (K : Frag) : F3 := fun a b c H Q E => ∃ (p : Addr) (xs : List V) (l h : Int), a = .ref p ∧ b = .int l ∧ c = .int h ∧ (H p = some (.lst xs) ∨ H p = some (.tup xs)) ∧
  ((l ≤ xs.length ∧ (xs.length : Int) ≤ h) → Q .non H) ∧ (¬ (l ≤ xs.length ∧ (xs.length : Int) ≤ h) → ∀ d H', Same H H' → H' d = some (.xd [("size", .int (xs.length : Int))]) → E (.ref (He.ga K "BadSize")) (some d) H')
section
variable {P : Program} {w : World} {K : Frag} {mg : Str → Option Value} {base : Heap}
theorem ok_OutOfBoundsD_initD (L : Lw K mg) {fd : FuncData} (F : FunD K "__init__" "OutOfBounds.__init__" (defArgs s_OutOfBoundsD_initD) (defBody s_OutOfBoundsD_initD) (defScope s_OutOfBoundsD_initD) (df_OutOfBoundsD_initD.dvs K) (df_OutOfBoundsD_initD.kws K) (He.fAd K ("OutOfBounds", some "__init__")) fd) : FnOk P w K mg base (L2N.CX P w) 1 (He.fAd K ("OutOfBounds", some "__init__")) fd (["self", "value"] : List Str) (sp2 (fs_ex1 K "OutOfBounds" "value")) := by
  refine FunD.ok F sc_OutOfBoundsD_initD len2 (fun cdv A outer s H vs Q E hr h => ?_)
  obtain ⟨a, b, rfl, h⟩ := h
  refine ⟨_, (pss_one (ps_ost (pv 0) (pv 1))), ?_⟩
  obtain ⟨e, H0, rfl, rfl, h0, k⟩ := h
  exact run_ex1 (L.ox_OutOfBounds).1 L.na_OutOfBounds_value h0 rfl rfl k
theorem c_OutOfBoundsD_initD (L : Lw K mg) : MakX P w K mg base 1 "OutOfBounds" (He.ga K "OutOfBounds") (sp2 (fs_ex1 K "OutOfBounds" "value")) := by
  obtain ⟨fd, F⟩ := L.d_OutOfBoundsD_initD
  exact ⟨⟨_, fd, ["self", "value"], (L.ox_OutOfBounds).1, (L.ox_OutOfBounds).2.1, (L.ox_OutOfBounds).2.2, ok_OutOfBoundsD_initD L F, L.g_OutOfBounds, F.bindsN (fun _ _ _ _ _ _ us hl => match us, hl with | [_, _], _ => rfl)⟩⟩
theorem ok_BadSizeD_initD (L : Lw K mg) {fd : FuncData} (F : FunD K "__init__" "BadSize.__init__" (defArgs s_BadSizeD_initD) (defBody s_BadSizeD_initD) (defScope s_BadSizeD_initD) (df_BadSizeD_initD.dvs K) (df_BadSizeD_initD.kws K) (He.fAd K ("BadSize", some "__init__")) fd) : FnOk P w K mg base (L2N.CX P w) 1 (He.fAd K ("BadSize", some "__init__")) fd (["self", "size"] : List Str) (sp2 (fs_ex1 K "BadSize" "size")) := by
  refine FunD.ok F sc_BadSizeD_initD len2 (fun cdv A outer s H vs Q E hr h => ?_)
  obtain ⟨a, b, rfl, h⟩ := h
  refine ⟨_, (pss_one (ps_ost (pv 0) (pv 1))), ?_⟩
  obtain ⟨e, H0, rfl, rfl, h0, k⟩ := h
  exact run_ex1 (L.ox_BadSize).1 L.na_BadSize_size h0 rfl rfl k
theorem c_BadSizeD_initD (L : Lw K mg) : MakX P w K mg base 1 "BadSize" (He.ga K "BadSize") (sp2 (fs_ex1 K "BadSize" "size")) := by
  obtain ⟨fd, F⟩ := L.d_BadSizeD_initD
  exact ⟨⟨_, fd, ["self", "size"], (L.ox_BadSize).1, (L.ox_BadSize).2.1, (L.ox_BadSize).2.2, ok_BadSizeD_initD L F, L.g_BadSize, F.bindsN (fun _ _ _ _ _ _ us hl => match us, hl with | [_, _], _ => rfl)⟩⟩
theorem ok_check_number (L : Lw K mg) {fd : FuncData} (F : FunD K "check_number" "check_number" (defArgs s_check_number) (defBody s_check_number) (defScope s_check_number) (df_check_number.dvs K) (df_check_number.kws K) (He.fAd K ("check_number", none)) fd) : FnOk P w K mg base (L2N.CX P w) 3 (He.fAd K ("check_number", none)) fd (["value", "low", "high"] : List Str) (sp3 (fs_cn K)) := by
  refine FunD.ok F sc_check_number len3 (fun cdv A outer s H vs Q E hr h => ?_)
  obtain ⟨a, b, c, rfl, h⟩ := h
  refine ⟨_, (pss_one (ps_if (PW.pt (pw_or (pt_cmpR o_lt (pv 0) (pv 1) (nomark _)) (pw_or1 (PW.pt (pw_and (pt_cmpR o_notN (pv 2) pe_non (nomark _)) (pw_and1 (pt_cmpR o_gt (pv 0) (pv 2) (nomark _)))))))) (pss_one (L2N.ps_raise rfl (L2N.takes_of rfl rfl rfl rfl) (pmk_x (c_OutOfBoundsD_initD (K := K) L) hr (by decide) passF (pa_cons (pv 0) pa_nil)))) pss_nil)), ?_⟩
  obtain ⟨v, l, rfl, rfl, hc, k, kx⟩ := h
  walk_at "zz"
  refine z_d2 (fun c => ?_) (fun c => ?_)
  · walk_at "zz"
    exact z_exo1 (kx (by omega))
  · rcases hc with rfl | ⟨h, rfl⟩
    · walk_at "zz"
      exact k ⟨by omega, fun h e => by cases e⟩
    · walk_at "zz"
      refine z_d2 (fun c2 => ?_) (fun c2 => ?_)
      · walk_at "zz"
        exact z_exo1 (kx (fun z => absurd (z.2 h rfl) (by omega)))
      · walk_at "zz"
        exact k ⟨by omega, fun h' e => by cases e; omega⟩
theorem c_check_number (L : Lw K mg) : Cal P w K mg base 3 "check_number" (sp3 (fs_cn K)) [] := by
  obtain ⟨fd, F⟩ := L.d_check_number
  obtain ⟨ds, vds, bds⟩ := F.binds1 (ps := ["value", "low", "high"]) 3 1 (by intro z; cases z) rfl (fun _ _ _ _ _ _ _ us its hl hi => match us, its, hl, hi with | [_, _, _], [_], _, _ => ⟨_, rfl, rfl⟩)
  exact ⟨⟨_, fd, ["value", "low", "high"], ds, ok_check_number L F, L.g_check_number, F.kp, bds, vds⟩⟩
theorem ok_check_size (L : Lw K mg) {fd : FuncData} (F : FunD K "check_size" "check_size" (defArgs s_check_size) (defBody s_check_size) (defScope s_check_size) (df_check_size.dvs K) (df_check_size.kws K) (He.fAd K ("check_size", none)) fd) : FnOk P w K mg base (L2N.CX P w) 3 (He.fAd K ("check_size", none)) fd (["things", "low", "high"] : List Str) (sp3 (fs_cs K)) := by
  refine FunD.ok F sc_check_size len3 (fun cdv A outer s H vs Q E hr h => ?_)
  obtain ⟨a, b, c, rfl, h⟩ := h
  refine ⟨_, (pss_cons (ps_set (i := 3) sc_check_size.nd rfl (by first | exact Or.inl rfl | exact Or.inr rfl) (pe_callB (callK rLen1 (K := K) rfl o_len) (by rfl) L.f_len (by decide +kernel) (pa_cons (pv 0) pa_nil)))
    (pss_one (ps_if (PW.pt (pw_or (pt_cmpR o_lt (pv 3) (pv 1) (nomark _)) (pw_or1 (pt_cmpR o_gt (pv 3) (pv 2) (nomark _))))) (pss_one (L2N.ps_raise rfl (L2N.takes_of rfl rfl rfl rfl) (pmk_x (c_BadSizeD_initD (K := K) L) hr (by decide) passF (pa_cons (pv 3) pa_nil)))) pss_nil))), ?_⟩
  obtain ⟨p, xs, l, h, rfl, rfl, rfl, hp, k, kx⟩ := h
  rcases hp with hp | hp
  · walk_at "zz"
    refine z_d2 (fun c => ?_) (fun c => ?_)
    · walk_at "zz"
      exact z_exo1 (kx (by omega))
    · walk_at "zz"
      refine z_d2 (fun c2 => ?_) (fun c2 => ?_)
      · walk_at "zz"
        exact z_exo1 (kx (by omega))
      · walk_at "zz"
        exact k (by omega)
  · walk_at "zz"
    refine z_lenT hp ?_
    walk_at "zz"
    refine z_d2 (fun c => ?_) (fun c => ?_)
    · walk_at "zz"
      exact z_exo1 (kx (by omega))
    · walk_at "zz"
      refine z_d2 (fun c2 => ?_) (fun c2 => ?_)
      · walk_at "zz"
        exact z_exo1 (kx (by omega))
      · walk_at "zz"
        exact k (by omega)
theorem c_check_size (L : Lw K mg) : Cal P w K mg base 3 "check_size" (sp3 (fs_cs K)) [] := by
  obtain ⟨fd, F⟩ := L.d_check_size
  exact ⟨⟨_, fd, ["things", "low", "high"], [], ok_check_size L F, L.g_check_size, F.kp, F.bindsN (fun _ _ _ _ _ _ us hl => match us, hl with | [_, _, _], _ => rfl), .nil⟩⟩
end
end T
set_option maxHeartbeats 4000000
namespace T
open PySem PySem.Spec PyProof.Rows L2 Z
open S31 (cf)
open S30
theorem z_repU0 {i j : Int} {a b : Nat} {H : Hp} {Q : VK} (ha : Bits a i) (hb : Bits b j) (h : a + b ≤ 900000) (q : Q (.int (i * j)) H) : zRep (.int i) (.int j) H Q := z_repB (ha.up (Nat.le_succ a)) (hb.up (Nat.le_succ b)) (Nat.succ_pos a) (Nat.succ_pos b) (by omega) q
/-- a Ratio in lowest terms, equal to T / w -/
def Fr (K : Frag) (H : Hp) (a : Addr) (T w : Int) : Prop := ∃ t b : Int, IsR K H a t b ∧ 0 < b ∧ Int.gcd t b = 1 ∧ t * w = T * b
theorem Fr.monoN {K : Frag} {H H' : Hp} {a : Addr} {T w : Int} (s : SameN H H') (h : Fr K H a T w) : Fr K H' a T w := by
  obtain ⟨t, b, h1, h⟩ := h
  exact ⟨t, b, IsR.monoN s h1, h⟩
theorem Fr.mono {K : Frag} {H H' : Hp} {a : Addr} {T w : Int} (s : Same H H') (h : Fr K H a T w) : Fr K H' a T w := h.monoN (SameN.of s)
theorem mul_cancel {x y d : Int} (hd : 0 < d) (e : x * d = y * d) : x = y := Int.eq_of_mul_eq_mul_right (by omega) e
theorem Fr.cast {K : Frag} {H : Hp} {a : Addr} {n d T w : Int} (h : Fr K H a n d) (hd : 0 < d) (e : n * w = T * d) : Fr K H a T w := by
  obtain ⟨t, b, h1, h2, h3, h4⟩ := h
  refine ⟨t, b, h1, h2, h3, mul_cancel hd ?_⟩
  have : t * w * d = (t * d) * w := by grind
  rw [this, h4]
  have : n * b * w = (n * w) * b := by grind
  rw [this, e]
  grind
theorem fr_le {t b T w : Int} (h0 : 0 < b) (g : Int.gcd t b = 1) (w0 : 0 < w) (e : t * w = T * b) : b ≤ w ∧ t.natAbs ≤ T.natAbs ∧ b ∣ w := by
  have d : b.natAbs ∣ t.natAbs * w.natAbs := by
    rw [← Int.natAbs_mul, e, Int.natAbs_mul]
    exact Nat.dvd_mul_left _ _
  have d2 : b.natAbs ∣ w.natAbs := Nat.Coprime.dvd_of_dvd_mul_left (by
    have : Nat.gcd t.natAbs b.natAbs = 1 := g
    rw [Nat.Coprime, Nat.gcd_comm]
    exact this) d
  have d3 : b ∣ w := Int.natAbs_dvd_natAbs.mp d2
  have l : b ≤ w := Int.le_of_dvd w0 d3
  refine ⟨l, ?_, d3⟩
  have e2 : t.natAbs * w.natAbs = T.natAbs * b.natAbs := by rw [← Int.natAbs_mul, e, Int.natAbs_mul]
  have e3 : T.natAbs * b.natAbs ≤ T.natAbs * w.natAbs := Nat.mul_le_mul_left _ (by omega)
  exact Nat.le_of_mul_le_mul_right (by omega : t.natAbs * w.natAbs ≤ T.natAbs * w.natAbs) (by omega)
theorem fr_bits {t b T w : Int} {B C : Nat} (h0 : 0 < b) (g : Int.gcd t b = 1) (w0 : 0 < w) (e : t * w = T * b) (hT : Bits B T) (hw : Bits C w) : Bits B t ∧ Bits C b := by
  obtain ⟨l1, l2, _⟩ := fr_le h0 g w0 e
  exact ⟨hT.le l2, hw.le (by omega)⟩
theorem u_mkF {K : Frag} {H : Hp} {Q : VK} {E : XK} {n d T w : Int} (hd : 0 < d) (h9 : Bits 8999 d) (e : n * w = T * d) (k : ∀ p H', Same H H' → Fr K H' p T w → Q (.ref p) H') :
    zMk (He.ga K "Ratio") (sp3 (fs_rinit K)) [] E [.int n, .int d] H Q :=
  z_mkR (by omega) h9 fun p H' s h => k p H' s (Fr.cast (n := n) (d := d) ⟨_, _, h, rt_spec hd⟩ hd e)
theorem u_mtF {K : Frag} {H : Hp} {p : Addr} {S w : Int} {m : Str} {R : Prop} (h : Fr K H p S w) (q : R) (h1 : ¬ m = "top" := by decide +kernel) (h2 : ¬ m = "bottom" := by decide +kernel) : zMt (He.ga K "Ratio") m (.ref p) H R := by
  obtain ⟨t, b, hr, _⟩ := h
  exact z_mtR hr q h1 h2
def itF (K : Frag) (T : Nat → Int) (w : Int) : Hp → V → Nat → Prop := fun H x k => ∃ a, x = .ref a ∧ Fr K H a (T k) w
theorem itF_mono {K : Frag} {T : Nat → Int} {w : Int} : Mono (itF K T w) := fun H H' x k s h => by
  obtain ⟨a, e, h⟩ := h
  exact ⟨a, e, h.monoN s⟩
/-- a list or a tuple of n Ratios -/
def FS (K : Frag) (H : Hp) (g : Addr) (xs : List V) (T : Nat → Int) (w : Int) : Prop := Sq2 H g xs ∧ ∀ k x, xs[k]? = some x → itF K T w H x k
theorem FS.mono {K : Frag} {H H' : Hp} {g : Addr} {xs : List V} {T : Nat → Int} {w : Int} (s : Same H H') (h : FS K H g xs T w) : FS K H' g xs T w := ⟨h.1.mono s, fun k x e => itF_mono _ _ _ _ (SameN.of s) (h.2 k x e)⟩
def sm (T : Nat → Int) : Nat → Int
  | 0 => 0
  | n + 1 => sm T n + T n
def fs_fadd (K : Frag) : F2 := fun a b H Q _ => ∃ (p r : Addr) (T w T' w' : Int) (B C : Nat), a = .ref p ∧ b = .ref r ∧ Fr K H p T w ∧ Fr K H r T' w' ∧ 0 < w ∧ 0 < w' ∧ Bits B T ∧ Bits B T' ∧ Bits C w ∧ Bits C w' ∧ B ≤ 100000 ∧ C ≤ 4000 ∧ ∀ x H', Same H H' → Fr K H' x (T * w' + T' * w) (w * w') → Q (.ref x) H'
def fs_fmul (K : Frag) : F2 := fun a b H Q _ => ∃ (p r : Addr) (T w T' w' : Int) (B C : Nat), a = .ref p ∧ b = .ref r ∧ Fr K H p T w ∧ Fr K H r T' w' ∧ 0 < w ∧ 0 < w' ∧ Bits B T ∧ Bits B T' ∧ Bits C w ∧ Bits C w' ∧ B ≤ 100000 ∧ C ≤ 4000 ∧ ∀ x H', Same H H' → Fr K H' x (T * T') (w * w') → Q (.ref x) H'
theorem u_fmul {K : Frag} {r0 : R2} {H : Hp} {Q : VK} {E : XK} {p r : Addr} {T w T' w' : Int} {B C : Nat} (h1 : Fr K H p T w) (h2 : Fr K H r T' w') (w0 : 0 < w) (w0' : 0 < w') (bT : Bits B T) (bT' : Bits B T') (bw : Bits C w) (bw' : Bits C w') (hB : B ≤ 100000) (hC : C ≤ 4000)
    (k : ∀ x H', Same H H' → Fr K H' x (T * T') (w * w') → Q (.ref x) H') : rOr r0 (rOwn2 (He.ga K "Ratio") (sp2 (fs_fmul K)) E) (.ref p) (.ref r) H Q := by
  obtain ⟨t, b, ⟨dx, q1⟩, z⟩ := id h1
  obtain ⟨t', b', ⟨dy, q2⟩, z'⟩ := id h2
  exact z_own2 q1 q2 ⟨_, _, rfl, p, r, T, w, T', w', B, C, rfl, rfl, h1, h2, w0, w0', bT, bT', bw, bw', hB, hC, fun x H' s q => ⟨⟨x, rfl⟩, k x H' s q⟩⟩
theorem lcm_dvd {a b w : Int} (ha : a ∣ w) (hb : b ∣ w) : ((Nat.lcm a.natAbs b.natAbs : Nat) : Int) ∣ w := by
  refine Int.natAbs_dvd_natAbs.mp ?_
  rw [Int.natAbs_natCast]
  exact Nat.lcm_dvd (Int.natAbs_dvd_natAbs.mpr ha) (Int.natAbs_dvd_natAbs.mpr hb)
theorem FS.fn {K : Frag} {H : Hp} {g : Addr} {xs : List V} {T : Nat → Int} {w : Int} (h : FS K H g xs T w) : ∃ ts bs : Nat → Int, ∀ k x, xs[k]? = some x → ∃ a, x = .ref a ∧ IsR K H a (ts k) (bs k) ∧ 0 < bs k ∧ Int.gcd (ts k) (bs k) = 1 ∧ ts k * w = T k * bs k := by
  have q : ∀ k, ∃ p : Int × Int, ∀ x, xs[k]? = some x → ∃ a, x = .ref a ∧ IsR K H a p.1 p.2 ∧ 0 < p.2 ∧ Int.gcd p.1 p.2 = 1 ∧ p.1 * w = T k * p.2 := fun k => by
    cases e : xs[k]? with
    | none => exact ⟨(0, 0), fun x z => nomatch z⟩
    | some x =>
      obtain ⟨a, ex, t, b, h1, h2, h3, h4⟩ := h.2 k x e
      refine ⟨(t, b), fun y z => ?_⟩
      cases z
      exact ⟨a, ex, h1, h2, h3, h4⟩
  obtain ⟨f, hf⟩ := Classical.axiomOfChoice q
  exact ⟨fun k => (f k).1, fun k => (f k).2, fun k x e => hf k x e⟩
end T
set_option maxHeartbeats 4000000
namespace T
open PySem PySem.Spec PyProof.Rows L2 Z S15
theorem IsR.monoD {K : Frag} {H H' : Hp} {a : Addr} {t b : Int} (s : SameD H H') (h : IsR K H a t b) : IsR K H' a t b := h.elim fun dx q => ⟨dx, s _ _ q (fun _ z => nomatch z) (fun _ z => nomatch z)⟩
theorem Fr.monoD {K : Frag} {H H' : Hp} {a : Addr} {T w : Int} (s : SameD H H') (h : Fr K H a T w) : Fr K H' a T w := by
  obtain ⟨t, b, h1, h⟩ := h
  exact ⟨t, b, IsR.monoD s h1, h⟩
/-- tuples and Ratios stand -/
structure Kp (K : Frag) (H H' : Hp) : Prop where
  tup : ∀ a xs, H a = some (.tup xs) → H' a = some (.tup xs)
  rat : ∀ a t b, IsR K H a t b → IsR K H' a t b
theorem Kp.ofD {K : Frag} {H H' : Hp} (s : SameD H H') : Kp K H H' := ⟨fun a xs h => s _ _ h (fun _ z => nomatch z) (fun _ z => nomatch z), fun a t b h => IsR.monoD s h⟩
theorem Kp.of {K : Frag} {H H' : Hp} (s : Same H H') : Kp K H H' := .ofD (SameD.of s)
theorem Kp.but {K : Frag} {H H' : Hp} {x C dx : Addr} (hx : H x = some (.ins C dx [])) (b : But x H H') : Kp K H H' := ⟨fun a xs h => b _ _ (fun z => by
  rw [z, hx] at h
  cases h) h, fun a t c h => h.elim fun dy q => ⟨dy, b _ _ (fun z => by
  rw [z, hx] at q
  cases q) q⟩⟩
theorem Fr.monoK {K : Frag} {H H' : Hp} {a : Addr} {T w : Int} (s : Kp K H H') (h : Fr K H a T w) : Fr K H' a T w := by
  obtain ⟨t, b, h1, h⟩ := h
  exact ⟨t, b, s.rat _ _ _ h1, h⟩
/-- an entry: its key, its Ratio, its number -/
abbrev En := Ex × (Addr × Int)
/-- pairs (exponents, Ratio): x is the pair of the entry -/
def PrA (K : Frag) (H : Hp) (x : V) (p : En) (N : Int) : Prop := ∃ t q, x = .ref t ∧ H t = some (.tup [.ref q, .ref p.2.1]) ∧ H q = some (.tup (p.1.map V.int)) ∧ Fr K H p.2.1 p.2.2 N
theorem PrA.monoK {K : Frag} {H H' : Hp} {x : V} {p : En} {N : Int} (s : Kp K H H') (h : PrA K H x p N) : PrA K H' x p N := by
  obtain ⟨t, q, e, h1, h2, h3⟩ := h
  exact ⟨t, q, e, s.tup _ _ h1, s.tup _ _ h2, h3.monoK s⟩
def PrL (K : Frag) (H : Hp) (xs : List V) (R : List En) (N : Int) : Prop := xs.length = R.length ∧ ∀ (k : Nat) x p, xs[k]? = some x → R[k]? = some p → PrA K H x p N
theorem PrL.monoK {K : Frag} {H H' : Hp} {xs : List V} {R : List En} {N : Int} (s : Kp K H H') (h : PrL K H xs R N) : PrL K H' xs R N := ⟨h.1, fun k x p h1 h2 => (h.2 k x p h1 h2).monoK s⟩
theorem PrL.monoD {K : Frag} {H H' : Hp} {xs : List V} {R : List En} {N : Int} (s : SameD H H') (h : PrL K H xs R N) : PrL K H' xs R N := h.monoK (Kp.ofD s)
theorem PrL.mono {K : Frag} {H H' : Hp} {xs : List V} {R : List En} {N : Int} (s : Same H H') (h : PrL K H xs R N) : PrL K H' xs R N := h.monoD (SameD.of s)
theorem PrL.nil {K : Frag} {H : Hp} {N : Int} : PrL K H [] [] N := ⟨rfl, fun k x p h => by simp at h⟩
theorem PrL.snoc {K : Frag} {H : Hp} {xs : List V} {R : List En} {N : Int} {x : V} {p : En} (h : PrL K H xs R N) (hx : PrA K H x p N) : PrL K H (xs ++ [x]) (R ++ [p]) N := by
  refine ⟨by simp [h.1], fun k y q h1 h2 => ?_⟩
  by_cases c : k < xs.length
  · rw [List.getElem?_append_left c] at h1
    rw [List.getElem?_append_left (by rw [← h.1]; exact c)] at h2
    exact h.2 k y q h1 h2
  · rw [List.getElem?_append_right (by omega)] at h1
    rw [List.getElem?_append_right (by rw [← h.1]; omega), ← h.1] at h2
    by_cases d : k - xs.length = 0
    · rw [d] at h1 h2
      cases Option.some.inj h1
      cases Option.some.inj h2
      exact hx
    · rw [List.getElem?_eq_none (by simp; omega)] at h1
      cases h1
theorem PrL.at {K : Frag} {H : Hp} {xs : List V} {R : List En} {N : Int} {k : Nat} {x : V} (h : PrL K H xs R N) (hx : xs[k]? = some x) : ∃ p, R[k]? = some p ∧ PrA K H x p N := by
  have l : k < R.length := by
    rw [← h.1]
    exact (List.getElem?_eq_some_iff.mp hx).1
  exact ⟨R[k], List.getElem?_eq_getElem l, h.2 k x _ hx (List.getElem?_eq_getElem l)⟩
/-- the numbers of entries -/
def nu (R : List En) : List (Ex × Int) := R.map fun p => (p.1, p.2.2)
def ks (R : List En) : List Ex := R.map (·.1)
abbrev rf : Addr × Int → V := fun p => .ref p.1
theorem nu_nd {R : List En} (h : Nd R) : Nd (nu R) := by
  unfold Nd nu
  rw [List.map_map]
  exact h
theorem lk_nu {R : List En} {e : Ex} : lkT (nu R) e = (lkT R e).map (·.2) := by
  unfold nu
  induction R with
  | nil => rfl
  | cons p r ih =>
    rw [List.map_cons]
    by_cases h : p.1 = e
    · rw [lkT_pos (p := (p.1, p.2.2)) h, lkT_pos h]
      rfl
    · rw [lkT_neg (p := (p.1, p.2.2)) h, lkT_neg h, ih]
/-- all entries: shape and Ratio -/
def EnA (K : Frag) (H : Hp) (n : Nat) (R : List En) (N : Int) : Prop := ∀ p, p ∈ R → Sh n p.1 ∧ Fr K H p.2.1 p.2.2 N
theorem EnA.monoK {K : Frag} {H H' : Hp} {n : Nat} {R : List En} {N : Int} (s : Kp K H H') (h : EnA K H n R N) : EnA K H' n R N := fun p m => ⟨(h p m).1, (h p m).2.monoK s⟩
theorem EnA.monoD {K : Frag} {H H' : Hp} {n : Nat} {R : List En} {N : Int} (s : SameD H H') (h : EnA K H n R N) : EnA K H' n R N := h.monoK (Kp.ofD s)
theorem EnA.mono {K : Frag} {H H' : Hp} {n : Nat} {R : List En} {N : Int} (s : Same H H') (h : EnA K H n R N) : EnA K H' n R N := h.monoD (SameD.of s)
theorem EnA.pt {K : Frag} {H : Hp} {n : Nat} {R : List En} {N : Int} {e : Ex} {r : Addr} {x : Int} (h : EnA K H n R N) (he : Sh n e) (hr : Fr K H r x N) : EnA K H n (ptT R e (r, x)) N := fun p m => by
  rcases mem_pt m with q | ⟨q, _⟩
  · rw [q]
    exact ⟨he, hr⟩
  · exact h p q
theorem nu_ln {K : Frag} {H : Hp} {n : Nat} {R : List En} {N : Int} (h : EnA K H n R N) : Ln n (nu R) := fun p m => by
  obtain ⟨q, mq, rfl⟩ := List.mem_map.mp m
  exact (h q mq).1
/-- F is what the entries tell -/
def Tel (R : List En) (F : Ex → Int) : Prop := ∀ p, p ∈ R → p.2.2 = F p.1
/-- the sorted entries of F -/
structure Srt (K : Frag) (H : Hp) (n : Nat) (R : List En) (F : Ex → Int) (N : Int) : Prop where
  cn : Cn n F (ks R)
  tel : Tel R F
  en : EnA K H n R N
theorem Srt.monoK {K : Frag} {H H' : Hp} {n : Nat} {R : List En} {F : Ex → Int} {N : Int} (s : Kp K H H') (h : Srt K H n R F N) : Srt K H' n R F N := ⟨h.cn, h.tel, h.en.monoK s⟩
theorem Srt.monoD {K : Frag} {H H' : Hp} {n : Nat} {R : List En} {F : Ex → Int} {N : Int} (s : SameD H H') (h : Srt K H n R F N) : Srt K H' n R F N := h.monoK (Kp.ofD s)
theorem Srt.mono {K : Frag} {H H' : Hp} {n : Nat} {R : List En} {F : Ex → Int} {N : Int} (s : Same H H') (h : Srt K H n R F N) : Srt K H' n R F N := h.monoD (SameD.of s)
theorem Srt.nd {K : Frag} {H : Hp} {n : Nat} {R : List En} {F : Ex → Int} {N : Int} (h : Srt K H n R F N) : Nd R := h.cn.nd
theorem Srt.vl {K : Frag} {H : Hp} {n : Nat} {R : List En} {F : Ex → Int} {N : Int} (h : Srt K H n R F N) (e : Ex) : vl (nu R) e = F e := by
  rw [vl_lk (nu_nd h.nd), lk_nu]
  cases q : lkT R e with
  | none =>
    have : ¬ e ∈ ks R := fun m => by
      obtain ⟨p, mp, ep⟩ := List.mem_map.mp m
      exact lkT_none.mp q p mp ep
    rw [h.cn.mem] at this
    show (0 : Int) = _
    exact (Classical.byContradiction fun z => this (fun w => z w.symm))
  | some y => exact h.tel _ (lkT_some q)
theorem Srt.rp {K : Frag} {H : Hp} {n : Nat} {R : List En} {F : Ex → Int} {N : Int} (h : Srt K H n R F N) : Rp n (nu R) F := ⟨h.vl, nu_ln h.en⟩
/-- a form's fields -/
def fF (a b c : V) : List (Str × V) := [("letters", a), ("terms", b), ("degree", c)]
def IsFm (K : Frag) (H : Hp) (f : Addr) (n : Nat) (p : Addr) (d : Int) : Prop := ∃ dx, H f = some (.ins (He.ga K "Form") dx (fF (.int (n : Int)) (.ref p) (.int d)))
theorem IsFm.mono {K : Frag} {H H' : Hp} {f : Addr} {n : Nat} {p : Addr} {d : Int} (s : Same H H') (h : IsFm K H f n p d) : IsFm K H' f n p d := h.elim fun dx q => ⟨dx, s _ _ q⟩
/-- a form of the function F over N -/
def Fo (K : Frag) (H : Hp) (f : Addr) (n : Nat) (F : Ex → Int) (N : Int) (B S : Nat) : Prop := ∃ p xs R, IsFm K H f n p (dgl (ks R)) ∧ H p = some (.tup xs) ∧ PrL K H xs R N ∧ Srt K H n R F N ∧ 0 < N ∧ Bits 600 N ∧ (∀ e, Bits B (F e)) ∧ R.length ≤ S
theorem Fo.mono {K : Frag} {H H' : Hp} {f : Addr} {n : Nat} {F : Ex → Int} {N : Int} {B S : Nat} (s : Same H H') (h : Fo K H f n F N B S) : Fo K H' f n F N B S := by
  obtain ⟨p, xs, R, h1, h2, h3, h4, h⟩ := h
  exact ⟨p, xs, R, h1.mono s, s _ _ h2, h3.mono s, h4.mono s, h⟩
theorem Fo.up {K : Frag} {H : Hp} {f : Addr} {n : Nat} {F : Ex → Int} {N : Int} {B S B' S' : Nat} (h : Fo K H f n F N B S) (hB : B ≤ B') (hS : S ≤ S') : Fo K H f n F N B' S' := by
  obtain ⟨p, xs, R, h1, h2, h3, h4, h5, h6, h7, h8⟩ := h
  exact ⟨p, xs, R, h1, h2, h3, h4, h5, h6, fun e => (h7 e).up hB, by omega⟩
theorem ne0_of {F G : Ex → Int} {N M : Int} (hN : 0 < N) (hM : 0 < M) (h : ∀ e, F e * M = G e * N) (e : Ex) : F e ≠ 0 ↔ G e ≠ 0 := by
  have := h e
  constructor
  · intro a b
    rw [b, Int.zero_mul] at this
    rcases Int.mul_eq_zero.mp this with q | q
    · exact a q
    · omega
  · intro a b
    rw [b, Int.zero_mul] at this
    rcases Int.mul_eq_zero.mp this.symm with q | q
    · exact a q
    · omega
theorem cn_congr {n : Nat} {F G : Ex → Int} {l : List Ex} (h : Cn n F l) (e : ∀ k, F k ≠ 0 ↔ G k ≠ 0) : Cn n G l := ⟨h.dn, h.nd, fun k => by rw [h.mem, e], h.sh⟩
/-- the same form over another number -/
theorem Fo.cast {K : Frag} {H : Hp} {f : Addr} {n : Nat} {F G : Ex → Int} {N M : Int} {B S B' : Nat} (h : Fo K H f n F N B S) (hM : 0 < M) (bM : Bits 600 M) (e : ∀ k, F k * M = G k * N) (bG : ∀ k, Bits B' (G k)) : Fo K H f n G M B' S := by
  obtain ⟨p, xs, R, h1, h2, h3, h4, h5, h6, h7, h8⟩ := h
  have nz := ne0_of h5 hM e
  refine ⟨p, xs, R.map fun q => (q.1, (q.2.1, G q.1)), ?_, h2, ⟨?_, fun k x q k1 k2 => ?_⟩, ⟨?_, fun q m => ?_, fun q m => ?_⟩, hM, bM, bG, by rw [List.length_map]; exact h8⟩
  · have : ks (R.map fun q => (q.1, (q.2.1, G q.1))) = ks R := by
      unfold ks
      rw [List.map_map]
      rfl
    rw [this]
    exact h1
  · rw [List.length_map]
    exact h3.1
  · rw [List.getElem?_map] at k2
    cases c : R[k]? with
    | none =>
      rw [c] at k2
      cases k2
    | some q0 =>
      rw [c] at k2
      cases Option.some.inj k2
      obtain ⟨t, u, g1, g2, g3, g4⟩ := h3.2 k x q0 k1 c
      refine ⟨t, u, g1, g2, g3, g4.cast h5 ?_⟩
      rw [h4.tel _ (List.mem_of_getElem? c)]
      exact e _
  · have : ks (R.map fun q => (q.1, (q.2.1, G q.1))) = ks R := by
      unfold ks
      rw [List.map_map]
      rfl
    rw [this]
    exact cn_congr h4.cn nz
  · obtain ⟨q0, m0, rfl⟩ := List.mem_map.mp m
    rfl
  · obtain ⟨q0, m0, rfl⟩ := List.mem_map.mp m
    refine ⟨(h4.en q0 m0).1, (h4.en q0 m0).2.cast h5 ?_⟩
    rw [h4.tel _ m0]
    exact e _
theorem Fo.pos {K : Frag} {H : Hp} {f : Addr} {n : Nat} {F : Ex → Int} {N : Int} {B S : Nat} (h : Fo K H f n F N B S) : 0 < N ∧ Bits 600 N := by
  obtain ⟨p, xs, R, h1, h2, h3, h4, h5, h6, h⟩ := h
  exact ⟨h5, h6⟩
/-- a law's table over a number: the keys within 0 .. c -/
def Ta (H : Hp) (d : Addr) (n : Nat) (c : Int) (T : List (Ex × Int)) (B S : Nat) : Prop := Frz H d V.int T ∧ Nd T ∧ (∀ p, p ∈ T → Sh n p.1 ∧ (∀ x, x ∈ p.1 → x ≤ c) ∧ Bits B p.2) ∧ T.length ≤ S
theorem Ta.mono {H H' : Hp} {d : Addr} {n : Nat} {c : Int} {T : List (Ex × Int)} {B S : Nat} (s : Same H H') (h : Ta H d n c T B S) : Ta H' d n c T B S := ⟨h.1.mono s, h.2⟩
def La (H : Hp) (t : Addr) (n : Nat) (c : Int) (F : Ex → Int) (N : Int) (B S : Nat) : Prop := ∃ o d T, H t = some (.tup [.int o, .ref d]) ∧ Ta H d n c T B S ∧ 0 < o ∧ o ∣ N ∧ 0 < N ∧ N ≤ 1000000 ∧ ∀ e, vl T e * N = F e * o
theorem La.mono {H H' : Hp} {t : Addr} {n : Nat} {c : Int} {F : Ex → Int} {N : Int} {B S : Nat} (s : Same H H') (h : La H t n c F N B S) : La H' t n c F N B S := by
  obtain ⟨o, d, T, h1, h2, h⟩ := h
  exact ⟨o, d, T, s _ _ h1, h2.mono s, h⟩
theorem La.up {H : Hp} {t : Addr} {n : Nat} {c c' : Int} {F : Ex → Int} {N : Int} {B S B' S' : Nat} (h : La H t n c F N B S) (hc : c ≤ c') (hB : B ≤ B') (hS : S ≤ S') : La H t n c' F N B' S' := by
  obtain ⟨o, d, T, h1, ⟨h2, h3, h4, h5⟩, h⟩ := h
  exact ⟨o, d, T, h1, ⟨h2, h3, fun p m => ⟨(h4 p m).1, fun x mx => by have := (h4 p m).2.1 x mx; omega, (h4 p m).2.2.up hB⟩, by omega⟩, h⟩
/-- .. over another number -/
theorem La.cast {H : Hp} {t : Addr} {n : Nat} {c : Int} {F G : Ex → Int} {N M : Int} {B S : Nat} (h : La H t n c F N B S) (hM : 0 < M) (d : N ∣ M) (lM : M ≤ 1000000) (e : ∀ k, F k * M = G k * N) : La H t n c G M B S := by
  obtain ⟨o, dd, T, h1, h2, h3, h4, h5, h6, h7⟩ := h
  refine ⟨o, dd, T, h1, h2, h3, Int.dvd_trans h4 d, hM, lM, fun k => ?_⟩
  refine mul_cancel h5 ?_
  have a1 : vl T k * M * N = (vl T k * N) * M := by grind
  have a2 : G k * o * N = (G k * N) * o := by grind
  rw [a1, a2, h7, ← e]
  grind
theorem Ta.rp {H : Hp} {d : Addr} {n : Nat} {c : Int} {T : List (Ex × Int)} {B S : Nat} (h : Ta H d n c T B S) : Ln n T := fun p m => (h.2.2.1 p m).1
theorem z_mkk {C : Addr} {n m : Nat} {sp : Sp} {gV : List V → List V → List V} {E : XK} {t tw : TA} {σ : L2.St} {H : Hp} {Q : VK} (q : t σ H fun vs H1 => tw σ H1 fun zs H2 => vs.length = n ∧ zs.length = m ∧ ∀ x dx, H2 x = none → H2 dx = none → dx ≠ x →
    sp (gV (.ref x :: vs) zs) (upd (upd H2 dx (.own x)) x (.ins C dx [])) (fun v H3 => v = .non ∧ Q (.ref x) H3) E) : tMakeN C n m sp gV E t tw σ H Q := q
section
variable {K : Frag} {σ : L2.St} {i : Nat} {H : Hp} {Q : VK} {f p : Addr} {n : Nat} {d : Int}
theorem fF_l {a b c : V} : (fF a b c).lookup ("letters" : Str) = some a := lkA
theorem fF_t {a b c : V} : (fF a b c).lookup ("terms" : Str) = some b := lkB (by decide +kernel) lkA
theorem fF_d {a b c : V} : (fF a b c).lookup ("degree" : Str) = some c := lkB (by decide +kernel) (lkB (by decide +kernel) lkA)
theorem z_fl (c : Cls K (He.ga K "Form")) (m : NoAttr K (He.ga K "Form") "letters") (hs : σ[i]? = some (some (.ref f))) (h : IsFm K H f n p d) (q : Q (.int (n : Int)) H) : tFld K (tVar i) "letters" σ H Q := by
  obtain ⟨dx, hx⟩ := h
  exact z_fldG c m hs hx fF_l q
theorem z_ft (c : Cls K (He.ga K "Form")) (m : NoAttr K (He.ga K "Form") "terms") (hs : σ[i]? = some (some (.ref f))) (h : IsFm K H f n p d) (q : Q (.ref p) H) : tFld K (tVar i) "terms" σ H Q := by
  obtain ⟨dx, hx⟩ := h
  exact z_fldG c m hs hx fF_t q
theorem z_fd (c : Cls K (He.ga K "Form")) (m : NoAttr K (He.ga K "Form") "degree") (hs : σ[i]? = some (some (.ref f))) (h : IsFm K H f n p d) (q : Q (.int d) H) : tFld K (tVar i) "degree" σ H Q := by
  obtain ⟨dx, hx⟩ := h
  exact z_fldG c m hs hx fF_d q
end
theorem z_ckw {r : List V → List V → Hp → VK → Prop} {t tk : TA} {σ : L2.St} {H : Hp} {Q : VK} (q : t σ H fun vs H1 => tk σ H1 fun zs H2 => r vs zs H2 Q) : tCKw r t tk σ H Q := q
theorem z_ixLst {K : Frag} {H : Hp} {Q : VK} {xs : List V} {p : Addr} {i : Int} {v : V} (h : H p = some (.lst xs)) (e : atI xs i = some v) (q : Q v H) : rIx K (.ref p) (.int i) H Q := z_ixL (SqL.of h) e q
def zFd (K : Frag) (f : Str) (x : V) (H : Hp) (Q : VK) : Prop := ∃ a C dx fs v, x = .ref a ∧ H a = some (.ins C dx fs) ∧ Cls K C ∧ NoAttr K C f ∧ fs.lookup f = some v ∧ Q v H
theorem z_fldS {K : Frag} {ta : TE} {f : Str} {σ : L2.St} {H : Hp} {Q : VK} (q : ta σ H fun x H1 => zFd K f x H1 Q) : tFld K ta f σ H Q := q
theorem z_fdt {K : Frag} {H : Hp} {Q : VK} {p : Addr} {t b : Int} (c : Cls K (He.ga K "Ratio")) (n : NoAttr K (He.ga K "Ratio") "top") (h : IsR K H p t b) (q : Q (.int t) H) : zFd K "top" (.ref p) H Q :=
  h.elim fun dx e => ⟨p, _, dx, _, _, rfl, e, c, n, rf_top, q⟩
theorem z_fdb {K : Frag} {H : Hp} {Q : VK} {p : Addr} {t b : Int} (c : Cls K (He.ga K "Ratio")) (n : NoAttr K (He.ga K "Ratio") "bottom") (h : IsR K H p t b) (q : Q (.int b) H) : zFd K "bottom" (.ref p) H Q :=
  h.elim fun dx e => ⟨p, _, dx, _, _, rfl, e, c, n, rf_bottom, q⟩
theorem z_yes {σ : L2.St} {H : Hp} {Q : Bool → Hp → Prop} (q : Q true H) : tYes σ H Q := q
theorem z_if1 {A B : Prop} (q : A) : if true = true then A else B := by
  rw [if_pos rfl]
  exact q
theorem z_ifb {b : Bool} {A B : Prop} (h1 : b = true → A) (h0 : b = false → B) : if b = true then A else B := by
  cases b with
  | true => exact z_if1 (h1 rfl)
  | false =>
    rw [if_neg (by decide)]
    exact h0 rfl
section
variable {K : Frag} {α : Type} {σ : L2.St} {H1 : Hp} {Q : VK} {te : TE} {tt : TT} {g : TG} {vs : List Nat} {a d : Addr} {xs : List V} {f : α → V} {T : List (Ex × α)}
theorem z_lcKW (h : Frz H1 d f T) (P : Nat → Hp → List V → Prop) (m : ∀ i H H' ys, SameN H H' → P i H ys → P i H' ys) (hl : ∀ i H ys, P i H ys → ys.length ≤ i) (hn : T.length ≤ 16777216) (h0 : ∀ H, P 0 H [])
    (hs : ∀ k e y q H ys (N : VK) (M : Hp → Prop), T[k]? = some (e, y) → H q = some (.tup (e.map V.int)) → Same H1 H → P k H ys → (∀ y H4, Same H H4 → P (k + 1) H4 (ys ++ [y]) → N y H4) → (∀ H3, Same H H3 → P (k + 1) H3 ys → M H3) →
      g (.ref q) (wipe σ vs) H fun σ2 H2 => wipe σ2 vs = wipe σ vs ∧ tt σ2 H2 fun b H3 => if b = true then te σ2 H3 N else M H3)
    (k : ∀ D H' ys, H1 D = none → Same H1 H' → H' D = some (.lst ys) → P T.length H' ys → Q (.ref D) H') : zLcK g tt te vs σ (.ref d) H1 Q := by
  obtain ⟨o, ho⟩ := h
  refine ⟨d, o, _, rfl, ho, z_lcW Z.walk_keysT P m hl hn h0 (fun H' s => s _ _ ho) (fun i x H H' ys N M hi s p y cN cM => ?_) k⟩
  obtain ⟨rfl, e, y, q, h1, rfl, h2⟩ := y
  exact hs i e y q H' ys N M h1 h2 s p cN cM
theorem z_lcLW (h : H1 a = some (.lst xs)) (P : Nat → Hp → List V → Prop) (m : ∀ i H H' ys, SameN H H' → P i H ys → P i H' ys) (hl : ∀ i H ys, P i H ys → ys.length ≤ i) (hn : xs.length ≤ 16777216) (h0 : ∀ H, P 0 H [])
    (hs : ∀ k x H ys (N : VK) (M : Hp → Prop), xs[k]? = some x → Same H1 H → P k H ys → (∀ y H4, Same H H4 → P (k + 1) H4 (ys ++ [y]) → N y H4) → (∀ H3, Same H H3 → P (k + 1) H3 ys → M H3) →
      g x (wipe σ vs) H fun σ2 H2 => wipe σ2 vs = wipe σ vs ∧ tt σ2 H2 fun b H3 => if b = true then te σ2 H3 N else M H3)
    (k : ∀ D H' ys, H1 D = none → Same H1 H' → H' D = some (.lst ys) → P xs.length H' ys → Q (.ref D) H') : zLcL K g tt te vs σ (.ref a) H1 Q := by
  refine ⟨a, rfl, ⟨_, SqL.of h⟩, z_lcW (walk_list (K := K) (a := a) (xs := xs)) P m hl hn h0 (fun H' s => SqL.of (s _ _ h)) (fun i x H H' ys N M hi s p y cN cM => ?_) k⟩
  obtain ⟨rfl, hx⟩ := y
  exact hs i x H' ys N M hx s p cN cM
theorem z_lcTW (h : H1 a = some (.tup xs)) (P : Nat → Hp → List V → Prop) (m : ∀ i H H' ys, SameN H H' → P i H ys → P i H' ys) (hl : ∀ i H ys, P i H ys → ys.length ≤ i) (hn : xs.length ≤ 16777216) (h0 : ∀ H, P 0 H [])
    (hs : ∀ k x H ys (N : VK) (M : Hp → Prop), xs[k]? = some x → Same H1 H → P k H ys → (∀ y H4, Same H H4 → P (k + 1) H4 (ys ++ [y]) → N y H4) → (∀ H3, Same H H3 → P (k + 1) H3 ys → M H3) →
      g x (wipe σ vs) H fun σ2 H2 => wipe σ2 vs = wipe σ vs ∧ tt σ2 H2 fun b H3 => if b = true then te σ2 H3 N else M H3)
    (k : ∀ D H' ys, H1 D = none → Same H1 H' → H' D = some (.lst ys) → P xs.length H' ys → Q (.ref D) H') : zLcT K g tt te vs σ (.ref a) H1 Q := by
  refine ⟨a, rfl, ⟨_, SqT.of h⟩, z_lcW (walk_tup (K := K) (a := a) (xs := xs)) P m hl hn h0 (fun H' s => SqT.of (s _ _ h)) (fun i x H H' ys N M hi s p y cN cM => ?_) k⟩
  obtain ⟨rfl, hx⟩ := y
  exact hs i x H' ys N M hx s p cN cM
end
/-- a form, its sizes apart -/
def FoN (K : Frag) (H : Hp) (f : Addr) (n : Nat) (F : Ex → Int) (N : Int) (S : Nat) : Prop := ∃ p xs R, IsFm K H f n p (dgl (ks R)) ∧ H p = some (.tup xs) ∧ PrL K H xs R N ∧ Srt K H n R F N ∧ R.length ≤ S
theorem Fo.of {K : Frag} {H : Hp} {f : Addr} {n : Nat} {F : Ex → Int} {N : Int} {B S : Nat} (h : FoN K H f n F N S) (h0 : 0 < N) (hN : Bits 600 N) (hB : ∀ e, Bits B (F e)) : Fo K H f n F N B S := by
  obtain ⟨p, xs, R, h1, h2, h3, h4, h5⟩ := h
  exact ⟨p, xs, R, h1, h2, h3, h4, h0, hN, hB, h5⟩
theorem same_but {H H' : Hp} {d : Addr} (h : H d = none) (b : But d H H') : Same H H' := fun a o e => b a o (fun z => by
  rw [z, h] at e
  cases e) e
theorem put_but {H H' : Hp} {d : Addr} {o : HO} (b : But d H H') : But d H (upd H' d o) := fun a u ne e => by
  rw [upd_ne ne]
  exact b a u ne e
theorem z_tupT {K : Frag} {H : Hp} {Q : VK} {a : Addr} {xs : List V} (h : H a = some (.tup xs)) (k : Q (.ref a) H) : rTup1 K [.ref a] H Q := ⟨a, xs, rfl, .inr ⟨SqT.of h, k⟩⟩
theorem u_cn {K : Frag} {H : Hp} {Q : VK} {E : XK} {v l h : Int} (h1 : l ≤ v) (h2 : v ≤ h) (q : Q .non H) : sp3 (fs_cn K) [.int v, .int l, .int h] H Q E :=
  ⟨_, _, _, rfl, v, l, rfl, rfl, .inr ⟨h, rfl⟩, fun _ => q, fun z => absurd ⟨h1, fun h' e => by cases e; exact h2⟩ z⟩
theorem u_cs {K : Frag} {H : Hp} {Q : VK} {E : XK} {p : Addr} {xs : List V} {l h : Int} (hp : H p = some (.lst xs) ∨ H p = some (.tup xs)) (h1 : l ≤ xs.length) (h2 : (xs.length : Int) ≤ h) (q : Q .non H) : sp3 (fs_cs K) [.ref p, .int l, .int h] H Q E :=
  ⟨_, _, _, rfl, p, xs, l, h, rfl, rfl, rfl, hp, fun _ => q, fun z => absurd ⟨h1, h2⟩ z⟩
end T
set_option maxHeartbeats 4000000
namespace T
open PySem PySem.Spec PyProof.Rows L2 Z
open S15
/-- the sorted keys of a list of pairs -/
def fs_ot (K : Frag) : F1 := fun a H Q _ => ∃ (d : Addr) (n S : Nat) (R : List En) (F : Ex → Int) (N : Int), a = .ref d ∧ Frz H d rf R ∧ Nd R ∧ EnA K H n R N ∧ 0 < N ∧ R.length ≤ S ∧ S ≤ 100000 ∧ (∀ e, vl (nu R) e = F e) ∧
  ∀ D H' xs R', Same H H' → H' D = some (.lst xs) → PrL K H' xs R' N → Srt K H' n R' F N → R'.length ≤ S → Q (.ref D) H'
theorem fr_zero {t b x N : Int} (h0 : 0 < b) (w0 : 0 < N) (e : t * N = x * b) : t = 0 ↔ x = 0 := by
  constructor
  · intro z
    rw [z, Int.zero_mul] at e
    rcases Int.mul_eq_zero.mp e.symm with q | q
    · exact q
    · omega
  · intro z
    rw [z, Int.zero_mul] at e
    rcases Int.mul_eq_zero.mp e with q | q
    · exact q
    · omega
theorem take_succ' {α : Type} {l : List α} {k : Nat} {x : α} (h : l[k]? = some x) : l.take (k + 1) = l.take k ++ [x] := by
  rw [List.take_add_one, h]
  rfl
theorem PqAt.monoN {H H' : Hp} {n : Nat} {b : Pq} (s : SameN H H') (h : PqAt H n b) : PqAt H' n b := by
  obtain ⟨h1, q, h2, h3⟩ := h
  exact ⟨h1, q, s _ _ h2 (fun _ z => nomatch z), s _ _ h3 (fun _ z => nomatch z)⟩
/-- sorted pairs give sorted keys -/
theorem sorted_keys {cs bs : List Pq} {l : List Ex} (pm : cs.Perm bs) (pw : cs.Pairwise (fun x y => ¬ Z.ltP x.2 y.2)) (e : bs.map (·.2) = l.map fun e => (e.sum, e)) (nd : l.Nodup) :
    (cs.map (·.2.2)).Pairwise Dn ∧ (cs.map (·.2.2)).Nodup ∧ (∀ e, e ∈ cs.map (·.2.2) ↔ e ∈ l) ∧ cs.length = l.length ∧ ∀ c, c ∈ cs → c.2.1 = c.2.2.sum := by
  have e1 : bs.map (·.2.2) = l := by
    have := congrArg (List.map (·.2)) e
    rw [List.map_map, List.map_map] at this
    have e2 : (bs.map ((fun x : Int × List Int => x.2) ∘ fun x : Pq => x.2)) = bs.map (·.2.2) := rfl
    rw [e2] at this
    rw [this]
    exact List.map_id _
  have hs : ∀ c, c ∈ cs → c.2.1 = c.2.2.sum := fun c m => by
    have m2 : c.2 ∈ bs.map (·.2) := List.mem_map_of_mem (pm.mem_iff.mp m)
    rw [e] at m2
    obtain ⟨x, mx, ex⟩ := List.mem_map.mp m2
    rw [← ex]
  have pl : (cs.map (·.2.2)).Perm l := by
    rw [← e1]
    exact pm.map _
  refine ⟨?_, pl.nodup_iff.mpr nd, fun x => pl.mem_iff, ?_, hs⟩
  · rw [List.pairwise_map]
    refine List.Pairwise.imp_of_mem (fun {a b} ma mb h => ?_) pw
    unfold Dn
    have a1 := hs a ma
    have b1 := hs b mb
    intro q
    refine h ?_
    unfold Z.ltP at q ⊢
    rw [a1, b1]
    exact q
  · have := pm.length_eq
    have e3 := congrArg List.length e
    rw [List.length_map, List.length_map] at e3
    omega
def fs_fneg (K : Frag) : F1 := fun a H Q _ => ∃ (p : Addr) (T w : Int) (C : Nat), a = .ref p ∧ Fr K H p T w ∧ 0 < w ∧ Bits C w ∧ C ≤ 4000 ∧ ∀ x H', Same H H' → Fr K H' x (-T) w → Q (.ref x) H'
local macro_rules | `(tactic| walk_at "z") => `(tactic| with_reducible refine z_fldS ?_)
local macro_rules | `(tactic| walk_at "z") => `(tactic| ((with_reducible refine' z_fdt ?zc1 ?zc2 ?zl2 ?_); (case zc1 => exact Lw.cl_Ratio (by assumption)); (case zc2 => exact Lw.na_Ratio_top (by assumption)); (case zl2 => walk_at "up")))
local macro_rules | `(tactic| walk_at "z") => `(tactic| ((with_reducible refine' z_fdb ?zc1 ?zc2 ?zl2 ?_); (case zc1 => exact Lw.cl_Ratio (by assumption)); (case zc2 => exact Lw.na_Ratio_bottom (by assumption)); (case zl2 => walk_at "up")))
local macro_rules | `(tactic| walk_at "up") => `(tactic| first
  | assumption
  | (refine' IsR.mono (by assumption) ?zup; case zup => walk_at "up")
  | (refine' IsE.mono (by assumption) ?zup; case zup => walk_at "up")
  | (refine' Same.at (by assumption) ?zup; case zup => walk_at "up")
  | (refine' SqL.of ?zup; case zup => walk_at "up")
  | (refine' L2.Same.seq (by assumption) ?zup; case zup => walk_at "up"))
local macro_rules | `(tactic| walk_at "z") => `(tactic| first
  | ((with_reducible refine' z_var ?zvh ?_); (case zvh => exact rfl))
  | with_reducible refine z_c ?_
  | with_reducible refine z_cons ?_
  | with_reducible refine z_nil ?_
  | with_reducible refine z_op ?_
  | with_reducible refine z_nx ?_
  | with_reducible refine z_seq ?_
  | with_reducible refine z_asg ?_
  | with_reducible refine z_asgG ?_
  | with_reducible refine z_call ?_
  | with_reducible refine z_sq0 ?_
  | with_reducible refine z_sq1 ?_
  | with_reducible refine z_ifS ?_
  | with_reducible refine z_test ?_
  | with_reducible refine z_tb ?_
  | with_reducible refine z_bl ?_
  | with_reducible refine z_blI ?_
  | with_reducible refine z_ret ?_
  | with_reducible refine z_rt ?_
  | with_reducible refine z_T ?_
  | with_reducible refine z_F ?_
  | with_reducible refine z_add ?_
  | with_reducible refine z_sub ?_
  | with_reducible refine z_neg ?_
  | with_reducible refine z_un ?_
  | with_reducible refine z_eqI ?_
  | with_reducible refine z_neI ?_
  | with_reducible refine z_lt ?_
  | with_reducible refine z_le ?_
  | with_reducible refine z_gt ?_
  | with_reducible refine z_ge ?_
  | with_reducible refine z_not ?_
  | with_reducible refine z_and ?_
  | with_reducible refine z_or ?_
  | with_reducible refine z_andV ?_
  | with_reducible refine z_orV ?_
  | with_reducible refine z_notV ?_
  | with_reducible refine z_if ?_
  | with_reducible refine z_cb ?_
  | with_reducible refine z_int1 ?_
  | with_reducible refine z_intb ?_
  | with_reducible refine z_abs ?_
  | with_reducible refine z_gcd ?_
  | with_reducible refine z_isi_ii ?_
  | with_reducible refine z_isi_ib ?_
  | with_reducible refine z_next ?_
  | with_reducible refine z_drop ?_
  | with_reducible refine z_par ?_
  | with_reducible refine z_par2 ?_
  | with_reducible refine z_tupN ?_
  | with_reducible refine z_lstN ?_
  | ((with_reducible refine' z_nt ?zl1 ?_); (case zl1 => exact Nat.le_of_ble_eq_true rfl); intro p H' hp hs he)
  | ((with_reducible refine' z_gtup ?zl1 ?zl2 ?_); (case zl1 => walk_at "up"); (case zl2 => exact rfl))
  | with_reducible refine z_bk ?_
  | with_reducible refine z_ct ?_
  | with_reducible refine z_break ?_
  | with_reducible refine z_cont ?_
  | with_reducible refine z_retN ?_
  | with_reducible refine z_nn ?_
  | with_reducible refine z_mk ?_
  | with_reducible refine z_gn ?_
  | with_reducible refine z_gcons ?_
  | with_reducible refine z_gnil ?_
  | with_reducible refine z_mt ?_
  | with_reducible refine z_mko ?_
  | with_reducible refine z_for2 ?_
  | with_reducible refine z_ownI ?_
  | ((with_reducible refine' z_lenL ?zl1 ?_); (case zl1 => walk_at "up"))
  | ((with_reducible refine' z_ixT ?zl1 ?zl2 ?_); (case zl1 => walk_at "up"); (case zl2 => exact rfl))
  | ((with_reducible refine' z_mulL ?zl1 ?zl2 ?_); (case zl1 => omega); (case zl2 => omega))
  | ((with_reducible refine' z_mulR ?zl1 ?zl2 ?_); (case zl1 => omega); (case zl2 => omega))
  | ((with_reducible refine' z_divS ?zl1 ?zl2 ?_); (case zl1 => omega); (case zl2 => omega))
  | ((with_reducible refine' z_mulW ?zl1 ?zl2 ?zl3 ?zl4 ?_); (case zl1 => omega); (case zl2 => omega); (case zl3 => omega); (case zl4 => omega))
  | ((with_reducible refine' z_divW ?zl1 ?zl2 ?_); (case zl1 => omega); (case zl2 => omega)))
local macro_rules | `(tactic| walk_at "zz") => `(tactic| repeat (walk_at "z"))
local macro_rules | `(tactic| walk_at "z") => `(tactic| with_reducible refine z_lstN ?_)
local macro_rules | `(tactic| walk_at "z") => `(tactic| with_reducible refine z_p6 ?_)
local macro_rules | `(tactic| walk_at "z") => `(tactic| with_reducible refine z_p12 ?_)
local macro_rules | `(tactic| walk_at "z") => `(tactic| with_reducible refine z_p13 ?_)
local macro_rules | `(tactic| walk_at "z") => `(tactic| with_reducible refine z_calln ?_)
local macro_rules | `(tactic| walk_at "z") => `(tactic| with_reducible refine z_xfS ?_)
local macro_rules | `(tactic| walk_at "z") => `(tactic| with_reducible refine z_lcS ?_)
local macro_rules | `(tactic| walk_at "z") => `(tactic| with_reducible refine z_lcRS ?_)
local macro_rules | `(tactic| walk_at "z") => `(tactic| with_reducible refine z_lcZS ?_)
local macro_rules | `(tactic| walk_at "z") => `(tactic| with_reducible refine z_foS ?_)
local macro_rules | `(tactic| walk_at "z") => `(tactic| with_reducible refine z_for1 ?_)
local macro_rules | `(tactic| walk_at "z") => `(tactic| with_reducible refine z_tsl ?_)
local macro_rules | `(tactic| walk_at "z") => `(tactic| with_reducible refine z_np ?_)
local macro_rules | `(tactic| walk_at "z") => `(tactic| with_reducible refine z_pt ?_)
local macro_rules | `(tactic| walk_at "z") => `(tactic| with_reducible refine z_pti ?_)
local macro_rules | `(tactic| walk_at "z") => `(tactic| with_reducible refine z_catI ?_)
local macro_rules | `(tactic| walk_at "z") => `(tactic| with_reducible refine z_isNI ?_)
local macro_rules | `(tactic| walk_at "z") => `(tactic| with_reducible refine z_isNN ?_)
local macro_rules | `(tactic| walk_at "z") => `(tactic| with_reducible refine z_notNI ?_)
local macro_rules | `(tactic| walk_at "z") => `(tactic| with_reducible refine z_notNN ?_)
local macro_rules | `(tactic| walk_at "z") => `(tactic| with_reducible refine z_gsub ?_)
local macro_rules | `(tactic| walk_at "z") => `(tactic| with_reducible refine z_isNb ?_)
local macro_rules | `(tactic| walk_at "z") => `(tactic| with_reducible refine z_notNb ?_)
local macro_rules | `(tactic| walk_at "z") => `(tactic| ((with_reducible refine' z_nlR ?zl1 ?_); (case zl1 => exact Nat.le_of_ble_eq_true rfl); intro p H' hp hs he))
local macro_rules | `(tactic| walk_at "z") => `(tactic| ((with_reducible refine' z_repR ?zl1 ?zl2 ?_); (case zl1 => omega); (case zl2 => omega)))
local macro_rules | `(tactic| walk_at "z") => `(tactic| ((with_reducible refine' z_repL ?zl1 ?zl2 ?_); (case zl1 => omega); (case zl2 => omega)))
local macro_rules | `(tactic| walk_at "z") => `(tactic| ((with_reducible refine' z_lenLst ?zl1 ?_); (case zl1 => walk_at "up")))
local macro_rules | `(tactic| walk_at "z") => `(tactic| ((with_reducible refine' z_cat ?zl1 ?zl2 ?zl3 ?_); (case zl1 => walk_at "up"); (case zl2 => walk_at "up"); (case zl3 => (simp only [List.length_map, List.length_cons, List.length_nil, List.length_append, List.length_replicate]; omega)); intro p H' hp hs he))
local macro_rules | `(tactic| walk_at "z") => `(tactic| with_reducible refine z_sfl ?_)
local macro_rules | `(tactic| walk_at "z") => `(tactic| with_reducible refine z_lcES ?_)
local macro_rules | `(tactic| walk_at "z") => `(tactic| with_reducible refine z_lcMS ?_)
local macro_rules | `(tactic| walk_at "z") => `(tactic| with_reducible refine z_foES ?_)
local macro_rules | `(tactic| walk_at "z") => `(tactic| with_reducible refine z_fo3S ?_)
local macro_rules | `(tactic| walk_at "z") => `(tactic| with_reducible refine z_sta ?_)
local macro_rules | `(tactic| walk_at "z") => `(tactic| with_reducible refine z_sta1 ?_)
local macro_rules | `(tactic| walk_at "z") => `(tactic| with_reducible refine z_lcTS ?_)
local macro_rules | `(tactic| walk_at "z") => `(tactic| with_reducible refine z_foTS ?_)
local macro_rules | `(tactic| walk_at "z") => `(tactic| with_reducible refine z_revTS ?_)
local macro_rules | `(tactic| walk_at "z") => `(tactic| with_reducible refine z_max2 ?_)
local macro_rules | `(tactic| walk_at "z") => `(tactic| ((with_reducible refine' z_fldt ?zc1 ?zc2 ?zl1 ?zl2 ?_); (case zc1 => exact Lw.cl_Ratio (by assumption)); (case zc2 => exact Lw.na_Ratio_top (by assumption)); (case zl1 => exact rfl); (case zl2 => walk_at "up")))
local macro_rules | `(tactic| walk_at "z") => `(tactic| ((with_reducible refine' z_fldb ?zc1 ?zc2 ?zl1 ?zl2 ?_); (case zc1 => exact Lw.cl_Ratio (by assumption)); (case zc2 => exact Lw.na_Ratio_bottom (by assumption)); (case zl1 => exact rfl); (case zl2 => walk_at "up")))
local macro_rules | `(tactic| walk_at "z") => `(tactic| ((with_reducible refine' u_mtF ?zl1 ?_); (case zl1 => walk_at "up")))
local macro_rules | `(tactic| walk_at "z") => `(tactic| ((with_reducible refine' z_ixLst ?zl1 ?zl2 ?_); (case zl1 => walk_at "up"); (case zl2 => exact rfl)))
local macro_rules | `(tactic| walk_at "z") => `(tactic| with_reducible refine z_yes ?_)
local macro_rules | `(tactic| walk_at "z") => `(tactic| with_reducible refine z_if1 ?_)
local macro_rules | `(tactic| walk_at "z") => `(tactic| with_reducible refine z_dg ?_)
local macro_rules | `(tactic| walk_at "z") => `(tactic| with_reducible refine z_di ?_)
local macro_rules | `(tactic| walk_at "z") => `(tactic| with_reducible refine z_dp ?_)
local macro_rules | `(tactic| walk_at "z") => `(tactic| with_reducible refine z_foKS ?_)
local macro_rules | `(tactic| walk_at "z") => `(tactic| with_reducible refine z_foPS ?_)
local macro_rules | `(tactic| walk_at "z") => `(tactic| with_reducible refine z_foTS ?_)
local macro_rules | `(tactic| walk_at "z") => `(tactic| with_reducible refine z_lcKS ?_)
local macro_rules | `(tactic| walk_at "z") => `(tactic| with_reducible refine z_lcTS ?_)
local macro_rules | `(tactic| walk_at "z") => `(tactic| with_reducible refine z_dcTS ?_)
local macro_rules | `(tactic| walk_at "z") => `(tactic| with_reducible refine z_dcPS ?_)
local macro_rules | `(tactic| walk_at "z") => `(tactic| with_reducible refine z_fixV ?_)
local macro_rules | `(tactic| walk_at "z") => `(tactic| with_reducible refine z_mkk ?_)
local macro_rules | `(tactic| walk_at "z") => `(tactic| with_reducible refine z_sta ?_)
local macro_rules | `(tactic| walk_at "z") => `(tactic| with_reducible refine z_sta1 ?_)
local macro_rules | `(tactic| walk_at "z") => `(tactic| with_reducible refine z_ckw ?_)
local macro_rules | `(tactic| walk_at "z") => `(tactic| with_reducible refine z_cmpD ?_)
local macro_rules | `(tactic| walk_at "z") => `(tactic| with_reducible refine z_pk1 ?_)
local macro_rules | `(tactic| walk_at "z") => `(tactic| with_reducible refine z_tBD ?_)
local macro_rules | `(tactic| walk_at "z") => `(tactic| ((with_reducible refine' z_fl ?zc1 ?zc2 ?zl1 ?zl2 ?_); (case zc1 => exact Lw.cl_Form (by assumption)); (case zc2 => exact Lw.na_Form_letters (by assumption)); (case zl1 => exact rfl); (case zl2 => walk_at "up")))
local macro_rules | `(tactic| walk_at "z") => `(tactic| ((with_reducible refine' z_ft ?zc1 ?zc2 ?zl1 ?zl2 ?_); (case zc1 => exact Lw.cl_Form (by assumption)); (case zc2 => exact Lw.na_Form_terms (by assumption)); (case zl1 => exact rfl); (case zl2 => walk_at "up")))
local macro_rules | `(tactic| walk_at "z") => `(tactic| ((with_reducible refine' z_fd ?zc1 ?zc2 ?zl1 ?zl2 ?_); (case zc1 => exact Lw.cl_Form (by assumption)); (case zc2 => exact Lw.na_Form_degree (by assumption)); (case zl1 => exact rfl); (case zl2 => walk_at "up")))
theorem sameFA {H H1 H2 : Hp} (h : Same H1 H2) (e : Same H H1) : Same H H2 := e.trans h
local macro_rules | `(tactic| walk_at "sm") => `(tactic| first
  | assumption
  | exact fun _ _ h => h
  | (refine' sameFA (by assumption) ?zsm; case zsm => walk_at "sm"))
local macro_rules | `(tactic| walk_at "up") => `(tactic| first
  | assumption
  | (with_reducible refine' IsR.mono (by assumption) ?zup; case zup => walk_at "up")
  | (with_reducible refine' Fr.mono (by assumption) ?zup; case zup => walk_at "up")
  | (with_reducible refine' IsFm.mono (by assumption) ?zup; case zup => walk_at "up")
  | (with_reducible refine' Frz.mono (by assumption) ?zup; case zup => walk_at "up")
  | (with_reducible refine' Fo.mono (by assumption) ?zup; case zup => walk_at "up")
  | (with_reducible refine' La.mono (by assumption) ?zup; case zup => walk_at "up")
  | (with_reducible refine' Ta.mono (by assumption) ?zup; case zup => walk_at "up")
  | (with_reducible refine' PrL.mono (by assumption) ?zup; case zup => walk_at "up")
  | (with_reducible refine' EnA.mono (by assumption) ?zup; case zup => walk_at "up")
  | (with_reducible refine' Srt.mono (by assumption) ?zup; case zup => walk_at "up")
  | (with_reducible refine' Same.at (by assumption) ?zup; case zup => walk_at "up")
  | fail)
section
variable {P : Program} {w : World} {K : Frag} {mg : Str → Option Value} {base : Heap}
theorem ok_RatioD_addD (L : Lw K mg) {fd : FuncData} (F : FunD K "__add__" "Ratio.__add__" (defArgs s_RatioD_addD) (defBody s_RatioD_addD) (defScope s_RatioD_addD) (df_RatioD_addD.dvs K) (df_RatioD_addD.kws K) (He.fAd K ("Ratio", some "__add__")) fd) : FnOk P w K mg base (L2N.CX P w) 3 (He.fAd K ("Ratio", some "__add__")) fd (["self", "other"] : List Str) (sp2 (fs_fadd K)) := by
  refine FunD.ok F sc_RatioD_addD len2 (fun cdv A outer s H vs Q E hr h => ?_)
  obtain ⟨a, b, rfl, h⟩ := h
  refine ⟨_, (pss_one (ps_ret (pe_mk (c_RatioD_initD (K := K) L) hr (by decide) (L2N.takes_of rfl rfl rfl rfl) (pa_cons (pe_op o_cat (pe_op o_rep (pe_fld (pv 0) rfl) (pe_fld (pv 1) rfl)) (pe_op o_rep (pe_fld (pv 1) rfl) (pe_fld (pv 0) rfl))) (pa_cons (pe_op o_rep (pe_fld (pv 0) rfl) (pe_fld (pv 1) rfl)) pa_nil))))), ?_⟩
  obtain ⟨p, r, T, w, T', w', B, C, rfl, rfl, ⟨t, b, h1, b0, g, e⟩, ⟨t', b', h2, b0', g', e'⟩, w0, w0', bT, bT', bw, bw', hB, hC, k⟩ := h
  obtain ⟨bt, bb⟩ := fr_bits b0 g w0 e bT bw
  obtain ⟨bt', bb'⟩ := fr_bits b0' g' w0' e' bT' bw'
  walk_at "zz"
  refine z_repU0 bt bb' (by omega) ?_
  walk_at "zz"
  refine z_repU0 bt' bb (by omega) ?_
  walk_at "zz"
  refine z_repU0 bb bb' (by omega) ?_
  walk_at "zz"
  refine u_mkF (Int.mul_pos b0 b0') (Bits.up (bb.mul bb') (by omega)) ?_ k
  have : (t * b' + t' * b) * (w * w') = (t * w) * (b' * w') + (t' * w') * (b * w) := by grind
  rw [this, e, e']
  grind
theorem c_RatioD_addD (L : Lw K mg) : Met P w K mg base 3 (He.ga K "Ratio") "__add__" (sp2 (fs_fadd K)) [] := by
  obtain ⟨fd, F⟩ := L.d_RatioD_addD
  exact ⟨⟨_, fd, ["self", "other"], [], L.cl_Ratio, L.me_RatioD_addD, ok_RatioD_addD L F, F.bindsN (fun _ _ _ _ _ _ us hl => match us, hl with | [_, _], _ => rfl), .nil⟩⟩
theorem ok_RatioD_mulD (L : Lw K mg) {fd : FuncData} (F : FunD K "__mul__" "Ratio.__mul__" (defArgs s_RatioD_mulD) (defBody s_RatioD_mulD) (defScope s_RatioD_mulD) (df_RatioD_mulD.dvs K) (df_RatioD_mulD.kws K) (He.fAd K ("Ratio", some "__mul__")) fd) : FnOk P w K mg base (L2N.CX P w) 3 (He.fAd K ("Ratio", some "__mul__")) fd (["self", "other"] : List Str) (sp2 (fs_fmul K)) := by
  refine FunD.ok F sc_RatioD_mulD len2 (fun cdv A outer s H vs Q E hr h => ?_)
  obtain ⟨a, b, rfl, h⟩ := h
  refine ⟨_, (pss_one (ps_ret (pe_mk (c_RatioD_initD (K := K) L) hr (by decide) (L2N.takes_of rfl rfl rfl rfl) (pa_cons (pe_op o_rep (pe_fld (pv 0) rfl) (pe_fld (pv 1) rfl)) (pa_cons (pe_op o_rep (pe_fld (pv 0) rfl) (pe_fld (pv 1) rfl)) pa_nil))))), ?_⟩
  obtain ⟨p, r, T, w, T', w', B, C, rfl, rfl, ⟨t, b, h1, b0, g, e⟩, ⟨t', b', h2, b0', g', e'⟩, w0, w0', bT, bT', bw, bw', hB, hC, k⟩ := h
  obtain ⟨bt, bb⟩ := fr_bits b0 g w0 e bT bw
  obtain ⟨bt', bb'⟩ := fr_bits b0' g' w0' e' bT' bw'
  walk_at "zz"
  refine z_repU0 bt bt' (by omega) ?_
  walk_at "zz"
  refine z_repU0 bb bb' (by omega) ?_
  walk_at "zz"
  refine u_mkF (Int.mul_pos b0 b0') (Bits.up (bb.mul bb') (by omega)) ?_ k
  have : t * t' * (w * w') = (t * w) * (t' * w') := by grind
  rw [this, e, e']
  grind
theorem c_RatioD_mulD (L : Lw K mg) : Met P w K mg base 3 (He.ga K "Ratio") "__mul__" (sp2 (fs_fmul K)) [] := by
  obtain ⟨fd, F⟩ := L.d_RatioD_mulD
  exact ⟨⟨_, fd, ["self", "other"], [], L.cl_Ratio, L.me_RatioD_mulD, ok_RatioD_mulD L F, F.bindsN (fun _ _ _ _ _ _ us hl => match us, hl with | [_, _], _ => rfl), .nil⟩⟩
theorem ok_RatioD_negD (L : Lw K mg) {fd : FuncData} (F : FunD K "__neg__" "Ratio.__neg__" (defArgs s_RatioD_negD) (defBody s_RatioD_negD) (defScope s_RatioD_negD) (df_RatioD_negD.dvs K) (df_RatioD_negD.kws K) (He.fAd K ("Ratio", some "__neg__")) fd) : FnOk P w K mg base (L2N.CX P w) 3 (He.fAd K ("Ratio", some "__neg__")) fd (["self"] : List Str) (sp1 (fs_fneg K)) := by
  refine FunD.ok F sc_RatioD_negD len1 (fun cdv A outer s H vs Q E hr h => ?_)
  obtain ⟨a, rfl, h⟩ := h
  refine ⟨_, (pss_one (ps_ret (pe_mk (c_RatioD_initD (K := K) L) hr (by decide) (L2N.takes_of rfl rfl rfl rfl) (pa_cons (pe_un o_neg (pe_fld (pv 0) rfl)) (pa_cons (pe_fld (pv 0) rfl) pa_nil))))), ?_⟩
  obtain ⟨p, T, w, C, rfl, ⟨t, b, h1, b0, g, e⟩, w0, bw, hC, k⟩ := h
  have bb : Bits C b := bw.le (by have := (fr_le b0 g w0 e).1; omega)
  walk_at "zz"
  refine u_mkF b0 (bb.up (by omega)) ?_ k
  rw [Int.neg_mul, e, Int.neg_mul]
theorem c_RatioD_negD (L : Lw K mg) : Met P w K mg base 3 (He.ga K "Ratio") "__neg__" (sp1 (fs_fneg K)) [] := by
  obtain ⟨fd, F⟩ := L.d_RatioD_negD
  exact ⟨⟨_, fd, ["self"], [], L.cl_Ratio, L.me_RatioD_negD, ok_RatioD_negD L F, F.bindsN (fun _ _ _ _ _ _ us hl => match us, hl with | [_], _ => rfl), .nil⟩⟩
theorem ok_ordered_terms (L : Lw K mg) {fd : FuncData} (F : FunD K "ordered_terms" "ordered_terms" (defArgs s_ordered_terms) (defBody s_ordered_terms) (defScope s_ordered_terms) (df_ordered_terms.dvs K) (df_ordered_terms.kws K) (He.fAd K ("ordered_terms", none)) fd) : FnOk P w K mg base (L2N.CX P w) 1 (He.fAd K ("ordered_terms", none)) fd (["table"] : List Str) (sp1 (fs_ot K)) := by
  refine FunD.ok F sc_ordered_terms len1 (fun cdv A outer s H vs Q E hr h => ?_)
  obtain ⟨a, rfl, h⟩ := h
  refine ⟨_, (pss_cons (ps_set (i := 1) sc_ordered_terms.nd rfl (by first | exact Or.inl rfl | exact Or.inr rfl) (pe_callBK (cr_sortP (K := K) rfl hr) (by rfl) L.f_sorted (by decide +kernel) (pa_cons (pe_lc (own := [("exponents", 2)]) (g := (gName 2)) (tt := tYes) rfl sc_ordered_terms.nd (pi_keysT (pv 0)) (blkOk_by (N := ["table", "places", "exponents", "_"]) (sc := defScope s_ordered_terms) (by decide +kernel)) (fun _ _ _ _ _ => pg_name (i := 2) sc_ordered_terms.nd rfl (Or.inl rfl)) (fun _ _ _ _ _ => pts_nil) (fun _ _ _ _ _ => (pe_tup (pa_cons (pe_callB (callK rSumS (K := K) rfl (cr_sumS rfl)) (by rfl) L.f_sum (by decide +kernel) (pa_cons (pv 2) pa_nil)) (pa_cons (pv 2) pa_nil))))) pa_nil) (pk_cons pe_bl pk_nil)))
    (pss_one (ps_ret (pe_lc (own := [("_", 3), ("exponents", 2)]) (g := (gTup K 2 (gCons (gName 3) (gCons (gName 2) gNil)))) (tt := _) rfl sc_ordered_terms.nd (pi_listK (K := K) rfl (pv 1)) (blkOk_by (N := ["table", "places", "exponents", "_"]) (sc := defScope s_ordered_terms) (by decide +kernel)) (fun _ _ _ _ _ => pgK (fun K => gTup K 2 (gCons (gName 3) (gCons (gName 2) gNil))) (K := K) rfl (pg_tup rfl (pgs_cons (pg_name (i := 3) sc_ordered_terms.nd rfl (Or.inl rfl)) (pgs_cons (pg_name (i := 2) sc_ordered_terms.nd rfl (Or.inl rfl)) pgs_nil)))) (fun _ _ _ _ _ => (pts_one (pt_cmpR op_ne (pe_fldK (K := K) rfl (pe_dget (hu1 hr) (pv 0) (pv 2) (fun _ _ => rfl)) rfl) pe_int (nomark _)))) (fun _ _ _ _ _ => (pe_tup (pa_cons (pv 2) (pa_cons (pe_dget (hu1 hr) (pv 0) (pv 2) (fun _ _ => rfl)) pa_nil)))))))), ?_⟩
  rw [show L2.start (["table", "places", "exponents", "_"] : List Str) [a] = [some a, none, none, none] from rfl]
  obtain ⟨d, n, S, R, F, N, rfl, hF, nd, hen, N0, hS, hS2, hf, k⟩ := h
  try dsimp only [List.set]
  walk_at "zz"
  refine z_lcKW hF (fun i H ys => ∃ cs : List Pq, ys = cs.map (fun c => V.ref c.1) ∧ cs.map (·.2) = ((ks R).take i).map (fun e => (e.sum, e)) ∧ ∀ c, c ∈ cs → PqAt H n c) (fun i H H' ys s p => ?_) (fun i H ys p => ?_) (by omega) (fun H => ⟨[], rfl, rfl, fun c m => nomatch m⟩) (fun i e y q H1 ys Nx Mx hi hq s1 p cN cM => ?_) (fun D H1 ys hD s1 h1 p => ?_)
  · obtain ⟨cs, e1, e2, e3⟩ := p
    exact ⟨cs, e1, e2, fun c m => PqAt.monoN s (e3 c m)⟩
  · obtain ⟨cs, e1, e2, e3⟩ := p
    have := congrArg List.length e2
    rw [List.length_map, List.length_map, List.length_take] at this
    rw [e1, List.length_map]
    omega
  · refine ⟨rfl, ?_⟩
    try dsimp only [List.set]
    walk_at "zz"
    refine z_sumT hq ?_
    try dsimp only [List.set]
    walk_at "zz"
    rename_i t H2 ht s2 et
    obtain ⟨cs, e1, e2, e3⟩ := p
    refine cN _ _ s2 ⟨cs ++ [(t, e.sum, e)], by rw [e1]; simp, ?_, fun c m => ?_⟩
    · have hk : (ks R)[i]? = some e := by
        unfold ks
        rw [List.getElem?_map, hi]
        rfl
      rw [take_succ' hk, List.map_append, List.map_append, e2]
      rfl
    · rcases List.mem_append.mp m with m | m
      · exact PqAt.monoN (SameN.of s2) (e3 c m)
      · rw [List.mem_singleton.mp m]
        exact ⟨(hen _ (List.mem_of_getElem? hi)).1.1, q, et, s2 _ _ hq⟩
  obtain ⟨cs, rfl, e2, e3⟩ := p
  try dsimp only [List.set]
  walk_at "zz"
  refine ⟨D, cs, n, rfl, rfl, SqL.of h1, e3, fun cs2 p2 pm pw hp2 => ?_⟩
  have lkR : (ks R).length = R.length := by
    unfold ks
    rw [List.length_map]
  rw [← lkR, List.take_length] at e2
  obtain ⟨dn, nd2, mem2, len2, sum2⟩ := sorted_keys pm pw e2 nd
  have s2 : Same H1 (upd H1 p2 (.lst (cs2.map fun b => V.ref b.1))) := Same.new hp2
  have h2 : upd H1 p2 (.lst (cs2.map fun b => V.ref b.1)) p2 = some (.lst (cs2.map fun b => V.ref b.1)) := upd_same
  have e4 : ∀ c, c ∈ cs2 → PqAt (upd H1 p2 (.lst (cs2.map fun b => V.ref b.1))) n c := fun c m => PqAt.monoN (SameN.of s2) (e3 c (pm.mem_iff.mp m))
  generalize (upd H1 p2 (.lst (cs2.map fun b => V.ref b.1))) = H2 at *
  have sH : Same H H2 := s1.trans s2
  try dsimp only [List.set]
  walk_at "zz"
  refine z_lcLW h2 (fun i H ys => ∃ Ri : List En, PrL K H ys Ri N ∧ ks Ri = ((cs2.map (·.2.2)).take i).filter (fun e => decide (F e ≠ 0)) ∧ Tel Ri F ∧ EnA K H n Ri N) (fun i H H' ys s p => ?_) (fun i H ys p => ?_) (by rw [List.length_map]; omega) (fun H => ⟨[], PrL.nil, rfl, (fun p m => nomatch m), (fun p m => nomatch m)⟩) (fun i x H3 ys Nx Mx hi s3 p cN cM => ?_) (fun D H3 ys hD s3 h3 p => ?_)
  · obtain ⟨Ri, p1, p2, p3, p4⟩ := p
    exact ⟨Ri, p1.monoD (SameD.ofN s), p2, p3, p4.monoD (SameD.ofN s)⟩
  · obtain ⟨Ri, p1, p2, p3, p4⟩ := p
    have := congrArg List.length p2
    have l2 := List.length_filter_le (fun e => decide (F e ≠ 0)) ((cs2.map (·.2.2)).take i)
    rw [List.length_take] at l2
    unfold ks at this
    rw [List.length_map] at this
    rw [p1.1]
    omega
  · rw [List.getElem?_map] at hi
    cases hc : cs2[i]? with
    | none =>
      rw [hc] at hi
      cases hi
    | some c =>
      rw [hc] at hi
      cases Option.some.inj hi
      obtain ⟨c1, q, c2, c3⟩ := e4 c (List.mem_of_getElem? hc)
      have hc1 := s3 _ _ c2
      have hq := s3 _ _ c3
      have mk : c.2.2 ∈ ks R := (mem2 _).mp (List.mem_map_of_mem (List.mem_of_getElem? hc))
      obtain ⟨p0, mp0, ep0⟩ := List.mem_map.mp mk
      have hlk : lkT R c.2.2 = some p0.2 := by
        rw [← ep0]
        exact lkT_mem nd mp0
      have hFx : p0.2.2 = F c.2.2 := by
        rw [← hf, vl_lk (nu_nd nd), lk_nu, hlk]
        rfl
      have hF3 := hF.mono (sH.trans s3)
      have hfr := ((hen p0 mp0).2).mono (sH.trans s3)
      obtain ⟨t, b, ht, b0, g0, eq0⟩ := id hfr
      have hck : (cs2.map (·.2.2))[i]? = some c.2.2 := by
        rw [List.getElem?_map, hc]
        rfl
      try dsimp only [List.set]
      walk_at "zz"
      refine ⟨rfl, ?_⟩
      try dsimp only [List.set]
      walk_at "zz"
      refine z_dgf hF3 hq hlk ?_
      try dsimp only [List.set]
      walk_at "zz"
      refine z_d2 (fun c9 => ?_) (fun c9 => ?_)
      · have nz : F c.2.2 = 0 := by
          rw [← hFx]
          exact (fr_zero b0 N0 eq0).mp c9
        obtain ⟨Ri, p1, p2, p3, p4⟩ := p
        refine cM _ (fun _ _ h => h) ⟨Ri, p1, ?_, p3, p4⟩
        rw [take_succ' hck, List.filter_append, ← p2, List.filter_cons_of_neg (by simp [nz])]
        simp
      · try dsimp only [List.set]
        walk_at "zz"
        refine z_dgf hF3 hq hlk ?_
        try dsimp only [List.set]
        walk_at "zz"
        rename_i tt H4 htt s4 et
        obtain ⟨Ri, p1, p2, p3, p4⟩ := p
        have nz : F c.2.2 ≠ 0 := by
          rw [← hFx]
          intro z
          exact c9 ((fr_zero b0 N0 eq0).mpr z)
        refine cN _ _ s4 ⟨Ri ++ [(c.2.2, p0.2)], (p1.mono s4).snoc ⟨tt, q, rfl, et, s4 _ _ hq, hfr.mono s4⟩, ?_, fun p m => ?_, fun p m => ?_⟩
        · rw [take_succ' hck, List.filter_append, ← p2, List.filter_cons_of_pos (by simp [nz])]
          unfold ks
          rw [List.map_append]
          rfl
        · rcases List.mem_append.mp m with m | m
          · exact p3 p m
          · rw [List.mem_singleton.mp m]
            exact hFx
        · rcases List.mem_append.mp m with m | m
          · exact p4.mono s4 p m
          · rw [List.mem_singleton.mp m]
            have := (hen p0 mp0).1
            rw [ep0] at this
            exact ⟨this, hfr.mono s4⟩
  · obtain ⟨Ri, p1, p2, p3, p4⟩ := p
    have lx : (cs2.map fun b => V.ref b.1).length = (cs2.map (·.2.2)).length := by rw [List.length_map, List.length_map]
    rw [lx, List.take_length] at p2
    refine k D H3 ys Ri (sH.trans s3) h3 p1 ⟨⟨?_, ?_, fun e => ?_, fun e m => ?_⟩, p3, p4⟩ ?_
    · rw [p2]
      exact dn.sublist List.filter_sublist
    · rw [p2]
      exact nd2.sublist List.filter_sublist
    · rw [p2, List.mem_filter, mem2]
      constructor
      · intro h
        exact of_decide_eq_true h.2
      · intro h
        refine ⟨?_, decide_eq_true h⟩
        rw [← hf] at h
        obtain ⟨p5, m5, e5⟩ := vl_mem h
        obtain ⟨p6, m6, e6⟩ := List.mem_map.mp m5
        rw [← e5, ← e6]
        exact List.mem_map_of_mem m6
    · obtain ⟨p5, m5, e5⟩ := List.mem_map.mp m
      rw [← e5]
      exact (p4 p5 m5).1
    · have := congrArg List.length p2
      have l2 := List.length_filter_le (fun e => decide (F e ≠ 0)) (cs2.map (·.2.2))
      unfold ks at this
      rw [List.length_map] at this l2
      rw [len2, lkR] at l2
      omega
theorem c_ordered_terms (L : Lw K mg) : Cal P w K mg base 1 "ordered_terms" (sp1 (fs_ot K)) [] := by
  obtain ⟨fd, F⟩ := L.d_ordered_terms
  exact ⟨⟨_, fd, ["table"], [], ok_ordered_terms L F, L.g_ordered_terms, F.kp, F.bindsN (fun _ _ _ _ _ _ us hl => match us, hl with | [_], _ => rfl), .nil⟩⟩
end
end T
set_option maxHeartbeats 4000000
namespace T
open PySem PySem.Spec PyProof.Rows L2 Z
open S15
theorem u_ot {K : Frag} {H : Hp} {Q : VK} {E : XK} {d : Addr} {n S : Nat} {R : List En} {F : Ex → Int} {N : Int} (h1 : Frz H d rf R) (h2 : Nd R) (h3 : EnA K H n R N) (h4 : 0 < N) (h5 : R.length ≤ S) (h6 : S ≤ 100000) (h7 : ∀ e, vl (nu R) e = F e)
    (k : ∀ D H' xs R', Same H H' → H' D = some (.lst xs) → PrL K H' xs R' N → Srt K H' n R' F N → R'.length ≤ S → Q (.ref D) H') : sp1 (fs_ot K) [.ref d] H Q E := ⟨_, rfl, d, n, S, R, F, N, rfl, h1, h2, h3, h4, h5, h6, h7, k⟩
/-- what collected_terms asks -/
def Col (K : Frag) (H : Hp) (n : Nat) (p : Addr) (xs : List V) (R : List En) (F : Ex → Int) (N : Int) : Prop := H p = some (.lst xs) ∧ PrL K H xs R N ∧ Nd R ∧ EnA K H n R N ∧ (∀ p, p ∈ R → ∀ x, x ∈ p.1 → x ≤ 40) ∧ 1 ≤ n ∧ n ≤ 6 ∧ R.length ≤ 2000 ∧ 0 < N ∧ ∀ e, vl (nu R) e = F e
theorem Col.mono {K : Frag} {H H' : Hp} {n : Nat} {p : Addr} {xs : List V} {R : List En} {F : Ex → Int} {N : Int} (s : Same H H') (h : Col K H n p xs R F N) : Col K H' n p xs R F N := by
  obtain ⟨h1, h2, h3, h4, h⟩ := h
  exact ⟨s _ _ h1, h2.mono s, h3, h4.mono s, h⟩
def fs_ct (K : Frag) : F2 := fun a b H Q _ => ∃ (n : Nat) (p : Addr) (xs : List V) (R : List En) (F : Ex → Int) (N : Int), a = .int (n : Int) ∧ b = .ref p ∧ Col K H n p xs R F N ∧
  ∀ D H' xs' R', Same H H' → H' D = some (.lst xs') → PrL K H' xs' R' N → Srt K H' n R' F N → R'.length ≤ R.length → Q (.ref D) H'
theorem u_ct {K : Frag} {H : Hp} {Q : VK} {E : XK} {n : Nat} {p : Addr} {xs : List V} {R : List En} {F : Ex → Int} {N : Int} (h : Col K H n p xs R F N)
    (k : ∀ D H' xs' R', Same H H' → H' D = some (.lst xs') → PrL K H' xs' R' N → Srt K H' n R' F N → R'.length ≤ R.length → Q (.ref D) H') : sp2 (fs_ct K) [.int (n : Int), .ref p] H Q E := ⟨_, _, rfl, n, p, xs, R, F, N, rfl, rfl, h, k⟩
def fs_fini (K : Frag) : F4 := fun a b c e H Q _ => ∃ (x dx q : Addr) (H0 : Hp) (n S : Nat) (xs : List V) (R : List En) (F : Ex → Int) (N : Int), a = .ref x ∧ b = .int (n : Int) ∧ c = .ref q ∧ H = upd (upd H0 dx (.own x)) x (.ins (He.ga K "Form") dx []) ∧ H0 x = none ∧ H0 dx = none ∧ dx ≠ x ∧
  ((e = .bl true ∧ H0 q = some (.lst xs) ∧ PrL K H0 xs R N ∧ Srt K H0 n R F N ∧ R.length ≤ S) ∨ (e = .bl false ∧ Col K H0 n q xs R F N ∧ S = R.length)) ∧ ∀ H', Same H0 H' → FoN K H' x n F N S → Q .non H'
def fs_made (K : Frag) : F2 := fun a b H Q _ => ∃ (d : Addr) (n S : Nat) (R : List En) (F : Ex → Int) (N : Int), a = .int (n : Int) ∧ b = .ref d ∧ Frz H d rf R ∧ Nd R ∧ EnA K H n R N ∧ 0 < N ∧ R.length ≤ S ∧ S ≤ 100000 ∧ (∀ e, vl (nu R) e = F e) ∧
  ∀ x H', Same H H' → FoN K H' x n F N S → Q (.ref x) H'
theorem u_made {K : Frag} {H : Hp} {Q : VK} {E : XK} {d : Addr} {n S : Nat} {R : List En} {F : Ex → Int} {N : Int} (h1 : Frz H d rf R) (h2 : Nd R) (h3 : EnA K H n R N) (h4 : 0 < N) (h5 : R.length ≤ S) (h6 : S ≤ 100000) (h7 : ∀ e, vl (nu R) e = F e)
    (k : ∀ x H', Same H H' → FoN K H' x n F N S → Q (.ref x) H') : sp2 (fs_made K) [.int (n : Int), .ref d] H Q E := ⟨_, _, rfl, d, n, S, R, F, N, rfl, rfl, h1, h2, h3, h4, h5, h6, h7, k⟩
/-- Form(n, pairs, sure=True) -/
theorem u_mkS {K : Frag} {H : Hp} {Q : VK} {E : XK} {q : Addr} {n S : Nat} {xs : List V} {R : List En} {F : Ex → Int} {N : Int} (h1 : H q = some (.lst xs)) (h2 : PrL K H xs R N) (h3 : Srt K H n R F N) (h4 : R.length ≤ S) (k : ∀ x H', Same H H' → FoN K H' x n F N S → Q (.ref x) H') :
    ([V.int (n : Int), V.ref q].length = 2 ∧ [V.bl true].length = 1 ∧ ∀ x dx, H x = none → H dx = none → dx ≠ x → sp4 (fs_fini K) ((V.ref x :: [V.int (n : Int), V.ref q]) ++ [V.bl true]) (upd (upd H dx (.own x)) x (.ins (He.ga K "Form") dx [])) (fun v H3 => v = .non ∧ Q (.ref x) H3) E) :=
  ⟨rfl, rfl, fun x dx hx hdx ne => ⟨_, _, _, _, rfl, x, dx, q, H, n, S, xs, R, F, N, rfl, rfl, rfl, rfl, hx, hdx, ne, .inl ⟨rfl, h1, h2, h3, h4⟩, fun H' s f => ⟨rfl, k x H' s f⟩⟩⟩
/-- Form(n, pairs) -/
theorem u_mk0 {K : Frag} {H : Hp} {Q : VK} {E : XK} {q : Addr} {n : Nat} {xs : List V} {R : List En} {F : Ex → Int} {N : Int} (h1 : Col K H n q xs R F N) (k : ∀ x H', Same H H' → FoN K H' x n F N R.length → Q (.ref x) H') :
    zMk (He.ga K "Form") (sp4 (fs_fini K)) [V.bl false] E [.int (n : Int), .ref q] H Q :=
  fun x dx hx hdx ne => ⟨_, _, _, _, rfl, x, dx, q, H, n, R.length, xs, R, F, N, rfl, rfl, rfl, rfl, hx, hdx, ne, .inr ⟨rfl, h1, rfl⟩, fun H' s f => ⟨rfl, k x H' s f⟩⟩
local macro_rules | `(tactic| walk_at "z") => `(tactic| with_reducible refine z_fldS ?_)
local macro_rules | `(tactic| walk_at "z") => `(tactic| ((with_reducible refine' z_fdt ?zc1 ?zc2 ?zl2 ?_); (case zc1 => exact Lw.cl_Ratio (by assumption)); (case zc2 => exact Lw.na_Ratio_top (by assumption)); (case zl2 => walk_at "up")))
local macro_rules | `(tactic| walk_at "z") => `(tactic| ((with_reducible refine' z_fdb ?zc1 ?zc2 ?zl2 ?_); (case zc1 => exact Lw.cl_Ratio (by assumption)); (case zc2 => exact Lw.na_Ratio_bottom (by assumption)); (case zl2 => walk_at "up")))
local macro_rules | `(tactic| walk_at "up") => `(tactic| first
  | assumption
  | (refine' IsR.mono (by assumption) ?zup; case zup => walk_at "up")
  | (refine' IsE.mono (by assumption) ?zup; case zup => walk_at "up")
  | (refine' Same.at (by assumption) ?zup; case zup => walk_at "up")
  | (refine' SqL.of ?zup; case zup => walk_at "up")
  | (refine' L2.Same.seq (by assumption) ?zup; case zup => walk_at "up"))
local macro_rules | `(tactic| walk_at "z") => `(tactic| first
  | ((with_reducible refine' z_var ?zvh ?_); (case zvh => exact rfl))
  | with_reducible refine z_c ?_
  | with_reducible refine z_cons ?_
  | with_reducible refine z_nil ?_
  | with_reducible refine z_op ?_
  | with_reducible refine z_nx ?_
  | with_reducible refine z_seq ?_
  | with_reducible refine z_asg ?_
  | with_reducible refine z_asgG ?_
  | with_reducible refine z_call ?_
  | with_reducible refine z_sq0 ?_
  | with_reducible refine z_sq1 ?_
  | with_reducible refine z_ifS ?_
  | with_reducible refine z_test ?_
  | with_reducible refine z_tb ?_
  | with_reducible refine z_bl ?_
  | with_reducible refine z_blI ?_
  | with_reducible refine z_ret ?_
  | with_reducible refine z_rt ?_
  | with_reducible refine z_T ?_
  | with_reducible refine z_F ?_
  | with_reducible refine z_add ?_
  | with_reducible refine z_sub ?_
  | with_reducible refine z_neg ?_
  | with_reducible refine z_un ?_
  | with_reducible refine z_eqI ?_
  | with_reducible refine z_neI ?_
  | with_reducible refine z_lt ?_
  | with_reducible refine z_le ?_
  | with_reducible refine z_gt ?_
  | with_reducible refine z_ge ?_
  | with_reducible refine z_not ?_
  | with_reducible refine z_and ?_
  | with_reducible refine z_or ?_
  | with_reducible refine z_andV ?_
  | with_reducible refine z_orV ?_
  | with_reducible refine z_notV ?_
  | with_reducible refine z_if ?_
  | with_reducible refine z_cb ?_
  | with_reducible refine z_int1 ?_
  | with_reducible refine z_intb ?_
  | with_reducible refine z_abs ?_
  | with_reducible refine z_gcd ?_
  | with_reducible refine z_isi_ii ?_
  | with_reducible refine z_isi_ib ?_
  | with_reducible refine z_next ?_
  | with_reducible refine z_drop ?_
  | with_reducible refine z_par ?_
  | with_reducible refine z_par2 ?_
  | with_reducible refine z_tupN ?_
  | with_reducible refine z_lstN ?_
  | ((with_reducible refine' z_nt ?zl1 ?_); (case zl1 => exact Nat.le_of_ble_eq_true rfl); intro p H' hp hs he)
  | ((with_reducible refine' z_gtup ?zl1 ?zl2 ?_); (case zl1 => walk_at "up"); (case zl2 => exact rfl))
  | with_reducible refine z_bk ?_
  | with_reducible refine z_ct ?_
  | with_reducible refine z_break ?_
  | with_reducible refine z_cont ?_
  | with_reducible refine z_retN ?_
  | with_reducible refine z_nn ?_
  | with_reducible refine z_mk ?_
  | with_reducible refine z_gn ?_
  | with_reducible refine z_gcons ?_
  | with_reducible refine z_gnil ?_
  | with_reducible refine z_mt ?_
  | with_reducible refine z_mko ?_
  | with_reducible refine z_for2 ?_
  | with_reducible refine z_ownI ?_
  | ((with_reducible refine' z_lenL ?zl1 ?_); (case zl1 => walk_at "up"))
  | ((with_reducible refine' z_ixT ?zl1 ?zl2 ?_); (case zl1 => walk_at "up"); (case zl2 => exact rfl))
  | ((with_reducible refine' z_mulL ?zl1 ?zl2 ?_); (case zl1 => omega); (case zl2 => omega))
  | ((with_reducible refine' z_mulR ?zl1 ?zl2 ?_); (case zl1 => omega); (case zl2 => omega))
  | ((with_reducible refine' z_divS ?zl1 ?zl2 ?_); (case zl1 => omega); (case zl2 => omega))
  | ((with_reducible refine' z_mulW ?zl1 ?zl2 ?zl3 ?zl4 ?_); (case zl1 => omega); (case zl2 => omega); (case zl3 => omega); (case zl4 => omega))
  | ((with_reducible refine' z_divW ?zl1 ?zl2 ?_); (case zl1 => omega); (case zl2 => omega)))
local macro_rules | `(tactic| walk_at "zz") => `(tactic| repeat (walk_at "z"))
local macro_rules | `(tactic| walk_at "z") => `(tactic| with_reducible refine z_lstN ?_)
local macro_rules | `(tactic| walk_at "z") => `(tactic| with_reducible refine z_p6 ?_)
local macro_rules | `(tactic| walk_at "z") => `(tactic| with_reducible refine z_p12 ?_)
local macro_rules | `(tactic| walk_at "z") => `(tactic| with_reducible refine z_p13 ?_)
local macro_rules | `(tactic| walk_at "z") => `(tactic| with_reducible refine z_calln ?_)
local macro_rules | `(tactic| walk_at "z") => `(tactic| with_reducible refine z_xfS ?_)
local macro_rules | `(tactic| walk_at "z") => `(tactic| with_reducible refine z_lcS ?_)
local macro_rules | `(tactic| walk_at "z") => `(tactic| with_reducible refine z_lcRS ?_)
local macro_rules | `(tactic| walk_at "z") => `(tactic| with_reducible refine z_lcZS ?_)
local macro_rules | `(tactic| walk_at "z") => `(tactic| with_reducible refine z_foS ?_)
local macro_rules | `(tactic| walk_at "z") => `(tactic| with_reducible refine z_for1 ?_)
local macro_rules | `(tactic| walk_at "z") => `(tactic| with_reducible refine z_tsl ?_)
local macro_rules | `(tactic| walk_at "z") => `(tactic| with_reducible refine z_np ?_)
local macro_rules | `(tactic| walk_at "z") => `(tactic| with_reducible refine z_pt ?_)
local macro_rules | `(tactic| walk_at "z") => `(tactic| with_reducible refine z_pti ?_)
local macro_rules | `(tactic| walk_at "z") => `(tactic| with_reducible refine z_catI ?_)
local macro_rules | `(tactic| walk_at "z") => `(tactic| with_reducible refine z_isNI ?_)
local macro_rules | `(tactic| walk_at "z") => `(tactic| with_reducible refine z_isNN ?_)
local macro_rules | `(tactic| walk_at "z") => `(tactic| with_reducible refine z_notNI ?_)
local macro_rules | `(tactic| walk_at "z") => `(tactic| with_reducible refine z_notNN ?_)
local macro_rules | `(tactic| walk_at "z") => `(tactic| with_reducible refine z_gsub ?_)
local macro_rules | `(tactic| walk_at "z") => `(tactic| with_reducible refine z_isNb ?_)
local macro_rules | `(tactic| walk_at "z") => `(tactic| with_reducible refine z_notNb ?_)
local macro_rules | `(tactic| walk_at "z") => `(tactic| ((with_reducible refine' z_nlR ?zl1 ?_); (case zl1 => exact Nat.le_of_ble_eq_true rfl); intro p H' hp hs he))
local macro_rules | `(tactic| walk_at "z") => `(tactic| ((with_reducible refine' z_repR ?zl1 ?zl2 ?_); (case zl1 => omega); (case zl2 => omega)))
local macro_rules | `(tactic| walk_at "z") => `(tactic| ((with_reducible refine' z_repL ?zl1 ?zl2 ?_); (case zl1 => omega); (case zl2 => omega)))
local macro_rules | `(tactic| walk_at "z") => `(tactic| ((with_reducible refine' z_lenLst ?zl1 ?_); (case zl1 => walk_at "up")))
local macro_rules | `(tactic| walk_at "z") => `(tactic| ((with_reducible refine' z_cat ?zl1 ?zl2 ?zl3 ?_); (case zl1 => walk_at "up"); (case zl2 => walk_at "up"); (case zl3 => (simp only [List.length_map, List.length_cons, List.length_nil, List.length_append, List.length_replicate]; omega)); intro p H' hp hs he))
local macro_rules | `(tactic| walk_at "z") => `(tactic| with_reducible refine z_sfl ?_)
local macro_rules | `(tactic| walk_at "z") => `(tactic| with_reducible refine z_lcES ?_)
local macro_rules | `(tactic| walk_at "z") => `(tactic| with_reducible refine z_lcMS ?_)
local macro_rules | `(tactic| walk_at "z") => `(tactic| with_reducible refine z_foES ?_)
local macro_rules | `(tactic| walk_at "z") => `(tactic| with_reducible refine z_fo3S ?_)
local macro_rules | `(tactic| walk_at "z") => `(tactic| with_reducible refine z_sta ?_)
local macro_rules | `(tactic| walk_at "z") => `(tactic| with_reducible refine z_sta1 ?_)
local macro_rules | `(tactic| walk_at "z") => `(tactic| with_reducible refine z_lcTS ?_)
local macro_rules | `(tactic| walk_at "z") => `(tactic| with_reducible refine z_foTS ?_)
local macro_rules | `(tactic| walk_at "z") => `(tactic| with_reducible refine z_revTS ?_)
local macro_rules | `(tactic| walk_at "z") => `(tactic| with_reducible refine z_max2 ?_)
local macro_rules | `(tactic| walk_at "z") => `(tactic| ((with_reducible refine' z_fldt ?zc1 ?zc2 ?zl1 ?zl2 ?_); (case zc1 => exact Lw.cl_Ratio (by assumption)); (case zc2 => exact Lw.na_Ratio_top (by assumption)); (case zl1 => exact rfl); (case zl2 => walk_at "up")))
local macro_rules | `(tactic| walk_at "z") => `(tactic| ((with_reducible refine' z_fldb ?zc1 ?zc2 ?zl1 ?zl2 ?_); (case zc1 => exact Lw.cl_Ratio (by assumption)); (case zc2 => exact Lw.na_Ratio_bottom (by assumption)); (case zl1 => exact rfl); (case zl2 => walk_at "up")))
local macro_rules | `(tactic| walk_at "z") => `(tactic| ((with_reducible refine' u_mtF ?zl1 ?_); (case zl1 => walk_at "up")))
local macro_rules | `(tactic| walk_at "z") => `(tactic| ((with_reducible refine' z_ixLst ?zl1 ?zl2 ?_); (case zl1 => walk_at "up"); (case zl2 => exact rfl)))
local macro_rules | `(tactic| walk_at "z") => `(tactic| with_reducible refine z_yes ?_)
local macro_rules | `(tactic| walk_at "z") => `(tactic| with_reducible refine z_if1 ?_)
local macro_rules | `(tactic| walk_at "z") => `(tactic| with_reducible refine z_dg ?_)
local macro_rules | `(tactic| walk_at "z") => `(tactic| with_reducible refine z_di ?_)
local macro_rules | `(tactic| walk_at "z") => `(tactic| with_reducible refine z_dp ?_)
local macro_rules | `(tactic| walk_at "z") => `(tactic| with_reducible refine z_foKS ?_)
local macro_rules | `(tactic| walk_at "z") => `(tactic| with_reducible refine z_foPS ?_)
local macro_rules | `(tactic| walk_at "z") => `(tactic| with_reducible refine z_foTS ?_)
local macro_rules | `(tactic| walk_at "z") => `(tactic| with_reducible refine z_lcKS ?_)
local macro_rules | `(tactic| walk_at "z") => `(tactic| with_reducible refine z_lcTS ?_)
local macro_rules | `(tactic| walk_at "z") => `(tactic| with_reducible refine z_dcTS ?_)
local macro_rules | `(tactic| walk_at "z") => `(tactic| with_reducible refine z_dcPS ?_)
local macro_rules | `(tactic| walk_at "z") => `(tactic| with_reducible refine z_fixV ?_)
local macro_rules | `(tactic| walk_at "z") => `(tactic| with_reducible refine z_mkk ?_)
local macro_rules | `(tactic| walk_at "z") => `(tactic| with_reducible refine z_sta ?_)
local macro_rules | `(tactic| walk_at "z") => `(tactic| with_reducible refine z_sta1 ?_)
local macro_rules | `(tactic| walk_at "z") => `(tactic| with_reducible refine z_ckw ?_)
local macro_rules | `(tactic| walk_at "z") => `(tactic| with_reducible refine z_cmpD ?_)
local macro_rules | `(tactic| walk_at "z") => `(tactic| with_reducible refine z_pk1 ?_)
local macro_rules | `(tactic| walk_at "z") => `(tactic| with_reducible refine z_tBD ?_)
local macro_rules | `(tactic| walk_at "z") => `(tactic| ((with_reducible refine' z_fl ?zc1 ?zc2 ?zl1 ?zl2 ?_); (case zc1 => exact Lw.cl_Form (by assumption)); (case zc2 => exact Lw.na_Form_letters (by assumption)); (case zl1 => exact rfl); (case zl2 => walk_at "up")))
local macro_rules | `(tactic| walk_at "z") => `(tactic| ((with_reducible refine' z_ft ?zc1 ?zc2 ?zl1 ?zl2 ?_); (case zc1 => exact Lw.cl_Form (by assumption)); (case zc2 => exact Lw.na_Form_terms (by assumption)); (case zl1 => exact rfl); (case zl2 => walk_at "up")))
local macro_rules | `(tactic| walk_at "z") => `(tactic| ((with_reducible refine' z_fd ?zc1 ?zc2 ?zl1 ?zl2 ?_); (case zc1 => exact Lw.cl_Form (by assumption)); (case zc2 => exact Lw.na_Form_degree (by assumption)); (case zl1 => exact rfl); (case zl2 => walk_at "up")))
theorem sameFB {H H1 H2 : Hp} (h : Same H1 H2) (e : Same H H1) : Same H H2 := e.trans h
local macro_rules | `(tactic| walk_at "sm") => `(tactic| first
  | assumption
  | exact fun _ _ h => h
  | (refine' sameFB (by assumption) ?zsm; case zsm => walk_at "sm"))
local macro_rules | `(tactic| walk_at "up") => `(tactic| first
  | assumption
  | (with_reducible refine' IsR.mono (by assumption) ?zup; case zup => walk_at "up")
  | (with_reducible refine' Fr.mono (by assumption) ?zup; case zup => walk_at "up")
  | (with_reducible refine' IsFm.mono (by assumption) ?zup; case zup => walk_at "up")
  | (with_reducible refine' Frz.mono (by assumption) ?zup; case zup => walk_at "up")
  | (with_reducible refine' Fo.mono (by assumption) ?zup; case zup => walk_at "up")
  | (with_reducible refine' La.mono (by assumption) ?zup; case zup => walk_at "up")
  | (with_reducible refine' Ta.mono (by assumption) ?zup; case zup => walk_at "up")
  | (with_reducible refine' PrL.mono (by assumption) ?zup; case zup => walk_at "up")
  | (with_reducible refine' EnA.mono (by assumption) ?zup; case zup => walk_at "up")
  | (with_reducible refine' Srt.mono (by assumption) ?zup; case zup => walk_at "up")
  | (with_reducible refine' Same.at (by assumption) ?zup; case zup => walk_at "up")
  | fail)
section
variable {P : Program} {w : World} {K : Frag} {mg : Str → Option Value} {base : Heap}
theorem ok_collected_terms (L : Lw K mg) {fd : FuncData} (F : FunD K "collected_terms" "collected_terms" (defArgs s_collected_terms) (defBody s_collected_terms) (defScope s_collected_terms) (df_collected_terms.dvs K) (df_collected_terms.kws K) (He.fAd K ("collected_terms", none)) fd) : FnOk P w K mg base (L2N.CX P w) 4 (He.fAd K ("collected_terms", none)) fd (["letters", "pairs"] : List Str) (sp2 (fs_ct K)) := by
  refine FunD.ok F sc_collected_terms len2 (fun cdv A outer s H vs Q E hr h => ?_)
  obtain ⟨a, b, rfl, h⟩ := h
  refine ⟨_, (pss_cons (ps_expr (pe_c (c_check_number (K := K) L) hr (by decide) (L2N.takes_of rfl rfl rfl rfl) (pa_cons (pv 0) (pa_cons pe_int (pa_cons pe_int pa_nil)))))
    (pss_cons (ps_expr (pe_c (c_check_size (K := K) L) hr (by decide) (L2N.takes_of rfl rfl rfl rfl) (pa_cons (pv 1) (pa_cons pe_int (pa_cons pe_int pa_nil)))))
    (pss_cons (ps_set (i := 2) sc_collected_terms.nd rfl (by first | exact Or.inl rfl | exact Or.inr rfl) pe_dnewT)
    (pss_cons (ps_for (passes_of rfl) rfl (pi_listK (K := K) rfl (pv 1)) (pg_tup (by rfl) (pgs_cons (pg_name (i := 3) sc_collected_terms.nd rfl (by first | exact Or.inl rfl | exact Or.inr rfl)) (pgs_cons (pg_name (i := 4) sc_collected_terms.nd rfl (by first | exact Or.inl rfl | exact Or.inr rfl)) pgs_nil))) (pss_cons (ps_expr (pe_c (c_check_size (K := K) L) hr (by decide) (L2N.takes_of rfl rfl rfl rfl) (pa_cons (pv 3) (pa_cons (pv 0) (pa_cons (pv 0) pa_nil)))))
    (pss_cons (ps_for (passes_of rfl) rfl (pi_tupK (K := K) rfl (pv 3)) (pg_name (i := 5) sc_collected_terms.nd rfl (by first | exact Or.inl rfl | exact Or.inr rfl)) (pss_one (ps_expr (pe_c (c_check_number (K := K) L) hr (by decide) (L2N.takes_of rfl rfl rfl rfl) (pa_cons (pv 5) (pa_cons pe_int (pa_cons pe_int pa_nil)))))))
    (pss_cons (ps_set (i := 6) sc_collected_terms.nd rfl (by first | exact Or.inl rfl | exact Or.inr rfl) (pe_callTy (callK rTup1 (K := K) rfl call_tuple_of) (by rfl) L.f_tuple (by decide +kernel) (pa_cons (pv 3) pa_nil)))
    (pss_one (ps_dput (hu1 hr) (pv 2) (pv 6) (pe_ifExp (pt_cmp (pc_din (hu1 hr) (pv 6) (pv 2)) rfl) (pe_op (op_or2 o_cat (op_own (by rfl) L.sf_Ratio (c_RatioD_addD (K := K) L) hr (by decide) passF)) (pe_dget (hu1 hr) (pv 2) (pv 6) (fun _ _ => rfl)) (pv 4)) (pv 4)) (by rfl)))))))
    (pss_one (ps_fix (ps_ret (pe_c (c_ordered_terms (K := K) L) hr (by decide) (L2N.takes_of rfl rfl rfl rfl) (pa_cons (pv 2) pa_nil))))))))), ?_⟩
  rw [show L2.start (["letters", "pairs", "table", "exponents", "ratio", "exponent", "place"] : List Str) [a, b] = [some a, some b, none, none, none, none, none] from rfl]
  obtain ⟨n, p, xs, R, F, N, rfl, rfl, hcol, k⟩ := h
  obtain ⟨hp, hpl, nd, hen, h40, n1, n6, hR, N0, hf⟩ := id hcol
  try dsimp only [List.set]
  walk_at "zz"
  refine u_cn (by omega) (by omega) ?_
  try dsimp only [List.set]
  walk_at "zz"
  refine u_cs (.inl hp) (by omega) (by rw [hpl.1]; omega) ?_
  try dsimp only [List.set]
  walk_at "zz"
  refine z_dnew (f := rf) fun d hd => ?_
  have s1 : Same H (upd H d (.dT (enT rf []))) := Same.new hd
  have e1 : (upd H d (.dT (enT rf []))) d = some (.dT (enT rf [])) := upd_same
  generalize (upd H d (.dT (enT rf []))) = H1 at *
  try dsimp only [List.set]
  walk_at "zz"
  refine z_foV (s1 _ _ hp) (fun i σ Hi => ∃ o3 o4 o5 o6, σ = [some (V.int (n : Int)), some (V.ref p), some (V.ref d), o3, o4, o5, o6] ∧ But d H1 Hi ∧ Hi d = some (.dT (enT rf (R.take i)))) ⟨_, _, _, _, rfl, fun _ _ _ e => e, e1⟩ (fun i σ Hi q => ?_) (fun i x σ Hi hx q => ?_) (fun σ Hi q => ?_)
  · obtain ⟨o3, o4, o5, o6, _, b, _⟩ := q
    exact b _ _ (fun z => by rw [z, hd] at hp; cases hp) (s1 _ _ hp)
  · obtain ⟨o3, o4, o5, o6, rfl, b, hT⟩ := q
    have sH : Same H Hi := same_but hd fun a o ne e => b a o ne (s1 _ _ e)
    obtain ⟨⟨e, r, y⟩, hi, t, qa, rfl, ht, hq, hfr⟩ := (hpl.mono sH).at hx
    have me := List.mem_of_getElem? hi
    obtain ⟨⟨le, pe⟩, _⟩ := hen _ me
    dsimp only at hq hfr ht pe le
    have le' : (e.map V.int).length = n := by rw [List.length_map]; exact le
    try dsimp only [List.set]
    walk_at "zz"
    refine u_cs (.inr hq) (by omega) (by omega) ?_
    try dsimp only [List.set]
    walk_at "zz"
    refine z_foT hq (fun j σ Hj => ∃ o5, σ = [some (V.int (n : Int)), some (V.ref p), some (V.ref d), some (V.ref qa), some (V.ref r), o5, o6] ∧ Hj = Hi) ⟨_, rfl, rfl⟩ (fun j σ Hj q => ?_) (fun j x σ Hj hx2 q => ?_) (fun σ Hj q => ?_)
    · obtain ⟨_, _, rfl⟩ := q
      exact hq
    · obtain ⟨o5, rfl, rfl⟩ := q
      rw [List.getElem?_map] at hx2
      cases hz : e[j]? with
      | none =>
        rw [hz] at hx2
        cases hx2
      | some z =>
        rw [hz] at hx2
        cases Option.some.inj hx2
        have z0 := pe z (List.mem_of_getElem? hz)
        have z1 := h40 _ me z (List.mem_of_getElem? hz)
        try dsimp only [List.set]
        walk_at "zz"
        refine u_cn (by omega) (by omega) ?_
        try dsimp only [List.set]
        walk_at "zz"
        exact ⟨_, rfl, rfl⟩
    · obtain ⟨o5, rfl, rfl⟩ := q
      have no : lkT (R.take i) e = none := by
        refine lkT_none.mpr fun p0 m0 e0 => ?_
        have nd2 : Nd (R.take i ++ [(e, r, y)]) := by
          rw [← take_succ' hi]
          unfold Nd
          rw [List.map_take]
          exact nd.sublist (List.take_sublist _ _)
        unfold Nd at nd2
        rw [List.map_append, List.nodup_append] at nd2
        exact nd2.2.2 p0.1 (List.mem_map_of_mem m0) e (by simp) e0
      try dsimp only [List.set]
      walk_at "zz"
      refine z_tupT hq ?_
      try dsimp only [List.set]
      walk_at "zz"
      refine z_dim hT hq ?_
      rw [no]
      refine ⟨false, rfl, ?_⟩
      rw [if_neg (by decide)]
      try dsimp only [List.set]
      walk_at "zz"
      refine z_dpm (x := (r, y)) hT hq (by rw [List.length_take]; omega) ?_
      exact ⟨_, _, _, _, rfl, put_but b, by rw [upd_same, pt_new no, ← take_succ' hi]⟩
  · obtain ⟨o3, o4, o5, o6, rfl, b, hT⟩ := q
    rw [hpl.1, List.take_length] at hT
    try dsimp only [List.set]
    walk_at "zz"
    refine z_fix hT (fun o => ?_)
    have sE : Same H (upd Hi d (.frz o (.dT (enT rf R)))) := Same.put (same_but hd fun a o ne e => b a o ne (s1 _ _ e)) hd
    try dsimp only [List.set]
    walk_at "zz"
    refine u_ot Frz.new nd (hen.mono sE) N0 (Nat.le_refl _) (by omega) hf (fun D H' xs' R' s2 h2 p2 q2 l2 => ?_)
    try dsimp only [List.set]
    walk_at "zz"
    exact k D H' xs' R' (sE.trans s2) h2 p2 q2 l2
theorem c_collected_terms (L : Lw K mg) : Cal P w K mg base 4 "collected_terms" (sp2 (fs_ct K)) [] := by
  obtain ⟨fd, F⟩ := L.d_collected_terms
  exact ⟨⟨_, fd, ["letters", "pairs"], [], ok_collected_terms L F, L.g_collected_terms, F.kp, F.bindsN (fun _ _ _ _ _ _ us hl => match us, hl with | [_, _], _ => rfl), .nil⟩⟩
theorem ok_FormD_initD (L : Lw K mg) {fd : FuncData} (F : FunD K "__init__" "Form.__init__" (defArgs s_FormD_initD) (defBody s_FormD_initD) (defScope s_FormD_initD) (df_FormD_initD.dvs K) (df_FormD_initD.kws K) (He.fAd K ("Form", some "__init__")) fd) : FnOk P w K mg base (L2N.CX P w) 5 (He.fAd K ("Form", some "__init__")) fd (["self", "letters", "pairs", "sure"] : List Str) (sp4 (fs_fini K)) := by
  refine FunD.ok F sc_FormD_initD len4 (fun cdv A outer s H vs Q E hr h => ?_)
  obtain ⟨a, b, c, e, rfl, h⟩ := h
  refine ⟨_, (pss_cons (ps_set (i := 4) sc_FormD_initD.nd rfl (by first | exact Or.inl rfl | exact Or.inr rfl) (pe_ifExp (pt_val (pv 3)) (pv 2) (pe_c (c_collected_terms (K := K) L) hr (by decide) (L2N.takes_of rfl rfl rfl rfl) (pa_cons (pv 1) (pa_cons (pv 2) pa_nil)))))
    (pss_cons (ps_fld (pv 0) (pv 1) rfl)
    (pss_cons (ps_fld (pv 0) (pe_callTy (callK rTup1 (K := K) rfl call_tuple_of) (by rfl) L.f_tuple (by decide +kernel) (pa_cons (pv 4) pa_nil)) rfl)
    (pss_one (ps_fld (pv 0) (pe_ifExp (pt_cmpR o_gt (pe_callB (callK rLen1 (K := K) rfl o_len) (by rfl) L.f_len (by decide +kernel) (pa_cons (pv 4) pa_nil)) pe_int (nomark _)) (pe_callB (callK rSumS (K := K) rfl (cr_sumS rfl)) (by rfl) L.f_sum (by decide +kernel) (pa_cons (pe_ix (ix_seqK (K := K) rfl) (pe_ix (ix_seqK (K := K) rfl) (pv 4) pe_int (fun _ _ => rfl)) pe_int (fun _ _ => rfl)) pa_nil)) (pe_un o_neg pe_int)) rfl))))), ?_⟩
  rw [show L2.start (["self", "letters", "pairs", "sure", "terms"] : List Str) [a, b, c, e] = [some a, some b, some c, some e, none] from rfl]
  obtain ⟨x, dx, q, H0, n, S, xs, R, F, N, rfl, rfl, rfl, rfl, hx, hdx, ne, alt, k⟩ := h
  have sm : Same H0 (upd (upd H0 dx (.own x)) x (.ins (He.ga K "Form") dx [])) := (Same.put (Same.new hdx) hx)
  have hxx : upd (upd H0 dx (.own x)) x (.ins (He.ga K "Form") dx []) x = some (.ins (He.ga K "Form") dx []) := upd_same
  generalize upd (upd H0 dx (.own x)) x (.ins (He.ga K "Form") dx []) = H at *
  rcases alt with ⟨rfl, hq, hpl, hs, hS⟩ | ⟨rfl, hcol, hS⟩
  · try dsimp only [List.set]
    walk_at "zz"
    have sA := sm
    have hxA := hxx
    have hqA := sm _ _ hq
    have hplA := hpl.mono sm
    have hsA := hs.mono sm
    have hSA := hS
    have nqx : q ≠ x := fun e => by
      rw [e, hxA] at hqA
      cases hqA
    refine z_sflp L.cl_Form L.na_Form_letters rfl hxA (by decide) ?_
    rw [pfN]
    have b1 : But x H (upd H x (.ins (He.ga K "Form") dx [("letters", .int (n : Int))])) := But.set
    have h1 : (upd H x (.ins (He.ga K "Form") dx [("letters", .int (n : Int))])) x = some (.ins (He.ga K "Form") dx [("letters", .int (n : Int))]) := upd_same
    generalize (upd H x (.ins (He.ga K "Form") dx [("letters", .int (n : Int))])) = HB at *
    have q1 := b1 _ _ nqx hqA
    try dsimp only [List.set]
    walk_at "zz"
    refine z_tup1L q1 (fun pt HC hpt sC hC => ?_)
    have ptx : pt ≠ x := fun e => by
      rw [e] at hpt
      rw [hpt] at h1
      cases h1
    try dsimp only [List.set]
    walk_at "zz"
    refine z_sflp L.cl_Form L.na_Form_terms rfl (sC _ _ h1) (by show 1 < 1000; decide) ?_
    rw [pfB (by decide +kernel), pfN]
    have b2 : But x H (upd HC x (.ins (He.ga K "Form") dx [("letters", .int (n : Int)), ("terms", .ref pt)])) := (b1.trans (But.of sC)).trans But.set
    have h2 : (upd HC x (.ins (He.ga K "Form") dx [("letters", .int (n : Int)), ("terms", .ref pt)])) x = some (.ins (He.ga K "Form") dx [("letters", .int (n : Int)), ("terms", .ref pt)]) := upd_same
    have t2 : (upd HC x (.ins (He.ga K "Form") dx [("letters", .int (n : Int)), ("terms", .ref pt)])) pt = some (.tup xs) := by
      rw [upd_ne ptx]
      exact hC
    generalize (upd HC x (.ins (He.ga K "Form") dx [("letters", .int (n : Int)), ("terms", .ref pt)])) = HD at *
    have kD : Kp K H HD := Kp.but hxA b2
    have q2 := b2 _ _ nqx hqA
    have fin : ∀ d, d = dgl (ks R) → Q .non (upd HD x (.ins (He.ga K "Form") dx [("letters", .int (n : Int)), ("terms", .ref pt), ("degree", .int d)])) := fun d ed => by
      have b3 : But x H (upd HD x (.ins (He.ga K "Form") dx [("letters", .int (n : Int)), ("terms", .ref pt), ("degree", .int d)])) := b2.trans But.set
      refine k _ (fun a o e => b3 a o (fun z => by rw [z, hx] at e; cases e) (sA _ _ e)) ⟨pt, xs, R, ⟨dx, ?_⟩, ?_, hplA.monoK (Kp.but hxA b3), hsA.monoK (Kp.but hxA b3), hSA⟩
      · rw [upd_same, ← ed]
        rfl
      · rw [upd_ne ptx]
        exact t2
    try dsimp only [List.set]
    walk_at "zz"
    refine z_d2 (fun c => ?_) (fun c => ?_)
    · have l0 : 0 < xs.length := by omega
      obtain ⟨p0, hp0, t, qe, ex, ht, hqe, hfr⟩ := (hplA.monoK kD).at (List.getElem?_eq_getElem l0)
      try dsimp only [List.set]
      walk_at "zz"
      refine z_ixLst q2 (v := .ref t) (atI_nat (j := 0) (by rw [List.getElem?_eq_getElem l0, ex])) ?_
      try dsimp only [List.set]
      walk_at "zz"
      refine z_sumT hqe ?_
      try dsimp only [List.set]
      walk_at "zz"
      refine z_sflp L.cl_Form L.na_Form_degree rfl h2 (by show 2 < 1000; decide) ?_
      rw [pfB (by decide +kernel), pfB (by decide +kernel), pfN]
      refine fin _ ?_
      cases R with
      | nil =>
        cases hp0
      | cons a r =>
        cases Option.some.inj hp0
        rfl
    · have l0 : xs.length = 0 := by omega
      have r0 : R = [] := List.length_eq_zero_iff.mp (by rw [← hplA.1]; exact l0)
      try dsimp only [List.set]
      walk_at "zz"
      refine z_sflp L.cl_Form L.na_Form_degree rfl h2 (by show 2 < 1000; decide) ?_
      rw [pfB (by decide +kernel), pfB (by decide +kernel), pfN]
      refine fin _ ?_
      rw [r0]
      rfl
  · try dsimp only [List.set]
    walk_at "zz"
    refine u_ct (hcol.mono sm) (fun D H2 xs2 R2 s2 h2 p2 r2 l2 => ?_)
    have sA := sm.trans s2
    have hxA := s2 _ _ hxx
    have hqA := h2
    have hplA := p2
    have hsA := r2
    have hSA : R2.length ≤ S := by omega
    clear h2
    try dsimp only [List.set]
    walk_at "zz"
    have nqx : D ≠ x := fun e => by
      rw [e, hxA] at hqA
      cases hqA
    refine z_sflp L.cl_Form L.na_Form_letters rfl hxA (by decide) ?_
    rw [pfN]
    have b1 : But x H2 (upd H2 x (.ins (He.ga K "Form") dx [("letters", .int (n : Int))])) := But.set
    have h1 : (upd H2 x (.ins (He.ga K "Form") dx [("letters", .int (n : Int))])) x = some (.ins (He.ga K "Form") dx [("letters", .int (n : Int))]) := upd_same
    generalize (upd H2 x (.ins (He.ga K "Form") dx [("letters", .int (n : Int))])) = HB at *
    have q1 := b1 _ _ nqx hqA
    try dsimp only [List.set]
    walk_at "zz"
    refine z_tup1L q1 (fun pt HC hpt sC hC => ?_)
    have ptx : pt ≠ x := fun e => by
      rw [e] at hpt
      rw [hpt] at h1
      cases h1
    try dsimp only [List.set]
    walk_at "zz"
    refine z_sflp L.cl_Form L.na_Form_terms rfl (sC _ _ h1) (by show 1 < 1000; decide) ?_
    rw [pfB (by decide +kernel), pfN]
    have b2 : But x H2 (upd HC x (.ins (He.ga K "Form") dx [("letters", .int (n : Int)), ("terms", .ref pt)])) := (b1.trans (But.of sC)).trans But.set
    have h2 : (upd HC x (.ins (He.ga K "Form") dx [("letters", .int (n : Int)), ("terms", .ref pt)])) x = some (.ins (He.ga K "Form") dx [("letters", .int (n : Int)), ("terms", .ref pt)]) := upd_same
    have t2 : (upd HC x (.ins (He.ga K "Form") dx [("letters", .int (n : Int)), ("terms", .ref pt)])) pt = some (.tup xs2) := by
      rw [upd_ne ptx]
      exact hC
    generalize (upd HC x (.ins (He.ga K "Form") dx [("letters", .int (n : Int)), ("terms", .ref pt)])) = HD at *
    have kD : Kp K H2 HD := Kp.but hxA b2
    have q2 := b2 _ _ nqx hqA
    have fin : ∀ d, d = dgl (ks R2) → Q .non (upd HD x (.ins (He.ga K "Form") dx [("letters", .int (n : Int)), ("terms", .ref pt), ("degree", .int d)])) := fun d ed => by
      have b3 : But x H2 (upd HD x (.ins (He.ga K "Form") dx [("letters", .int (n : Int)), ("terms", .ref pt), ("degree", .int d)])) := b2.trans But.set
      refine k _ (fun a o e => b3 a o (fun z => by rw [z, hx] at e; cases e) (sA _ _ e)) ⟨pt, xs2, R2, ⟨dx, ?_⟩, ?_, hplA.monoK (Kp.but hxA b3), hsA.monoK (Kp.but hxA b3), hSA⟩
      · rw [upd_same, ← ed]
        rfl
      · rw [upd_ne ptx]
        exact t2
    try dsimp only [List.set]
    walk_at "zz"
    refine z_d2 (fun c => ?_) (fun c => ?_)
    · have l0 : 0 < xs2.length := by omega
      obtain ⟨p0, hp0, t, qe, ex, ht, hqe, hfr⟩ := (hplA.monoK kD).at (List.getElem?_eq_getElem l0)
      try dsimp only [List.set]
      walk_at "zz"
      refine z_ixLst q2 (v := .ref t) (atI_nat (j := 0) (by rw [List.getElem?_eq_getElem l0, ex])) ?_
      try dsimp only [List.set]
      walk_at "zz"
      refine z_sumT hqe ?_
      try dsimp only [List.set]
      walk_at "zz"
      refine z_sflp L.cl_Form L.na_Form_degree rfl h2 (by show 2 < 1000; decide) ?_
      rw [pfB (by decide +kernel), pfB (by decide +kernel), pfN]
      refine fin _ ?_
      cases R2 with
      | nil =>
        cases hp0
      | cons a r =>
        cases Option.some.inj hp0
        rfl
    · have l0 : xs2.length = 0 := by omega
      have r0 : R2 = [] := List.length_eq_zero_iff.mp (by rw [← hplA.1]; exact l0)
      try dsimp only [List.set]
      walk_at "zz"
      refine z_sflp L.cl_Form L.na_Form_degree rfl h2 (by show 2 < 1000; decide) ?_
      rw [pfB (by decide +kernel), pfB (by decide +kernel), pfN]
      refine fin _ ?_
      rw [r0]
      rfl
theorem c1_FormD_initD (L : Lw K mg) : Mak P w K mg base 5 "Form" (He.ga K "Form") (sp4 (fs_fini K)) [V.bl false] := by
  obtain ⟨fd, F⟩ := L.d_FormD_initD
  obtain ⟨ds, vds, bds⟩ := F.binds0 (ps := ["self", "letters", "pairs", "sure"]) 3 (by intro z; cases z) rfl (fun _ _ _ _ _ _ us ks hl hk => match us, ks, hl, hk with | [_, _, _], [_], _, _ => ⟨_, _, _, _, _, _, rfl, rfl, rfl⟩)
  exact ⟨_, fd, ["self", "letters", "pairs", "sure"], ds, L.mk_Form, ok_FormD_initD L F, L.g_Form, bds, vds⟩
theorem ck_FormD_initD_2_sure (L : Lw K mg) : MakK P w K mg base 5 "Form" (He.ga K "Form") (sp4 (fs_fini K)) 2 ["sure"] (fun vs zs => vs ++ zs) := by
  obtain ⟨fd, F⟩ := L.d_FormD_initD
  obtain ⟨mv, kb⟩ := F.kbinds0 (ps := ["self", "letters", "pairs", "sure"]) 3 ["sure"] [] (fun us _ ws => us ++ ws) (by intro z; cases z) (fun q hq => nomatch hq) (fun r1 _ r3 => r1.append r3) (fun _ _ _ _ _ _ us mv ws hl hm hw => match us, mv, ws, hl, hm, hw with | [_, _, _], [], [_], _, _, _ => rfl)
  exact ⟨⟨_, fd, ["self", "letters", "pairs", "sure"], _, L.mk_Form, ok_FormD_initD L F, L.g_Form, kb⟩⟩
theorem ok_Form_made (L : Lw K mg) {fd : FuncData} (F : FunD K "made" "Form.made" (defArgs s_Form_made) (defBody s_Form_made) (defScope s_Form_made) (df_Form_made.dvs K) (df_Form_made.kws K) (He5.wf K (He.ga K "Form") "staticmethod" "made") fd) : FnOk P w K mg base (L2N.CX P w) 7 (He5.wf K (He.ga K "Form") "staticmethod" "made") fd (["letters", "table"] : List Str) (sp2 (fs_made K)) := by
  refine FunD.ok F sc_Form_made len2 (fun cdv A outer s H vs Q E hr h => ?_)
  obtain ⟨a, b, rfl, h⟩ := h
  refine ⟨_, (pss_one (ps_ret (pe_mkk (ck_FormD_initD_2_sure (K := K) L) hr (by decide) passF (pa_cons (pv 0) (pa_cons (pe_c (c_ordered_terms (K := K) L) hr (by decide) (L2N.takes_of rfl rfl rfl rfl) (pa_cons (pv 1) pa_nil)) pa_nil)) (pk_cons pe_bl pk_nil)))), ?_⟩
  rw [show L2.start (["letters", "table"] : List Str) [a, b] = [some a, some b] from rfl]
  obtain ⟨d, n, S, R, F, N, rfl, rfl, hF, nd, hen, N0, hS, hS2, hf, k⟩ := h
  try dsimp only [List.set]
  walk_at "zz"
  refine u_ot hF nd hen N0 hS hS2 hf (fun D H2 xs2 R2 s2 h2 p2 r2 l2 => ?_)
  try dsimp only [List.set]
  walk_at "zz"
  refine u_mkS h2 p2 r2 l2 (fun x H3 s3 f3 => ?_)
  try dsimp only [List.set]
  walk_at "zz"
  exact k x H3 (s2.trans s3) f3
theorem c_Form_made (L : Lw K mg) : Sta P w K mg base 7 (He.ga K "Form") "made" (sp2 (fs_made K)) [] := by
  obtain ⟨fd, F⟩ := L.d_Form_made
  exact ⟨⟨_, _, fd, ["letters", "table"], [], L.cr_Form, L.sm_Form_made, ok_Form_made L F, F.kp, F.bindsN (fun _ _ _ _ _ _ us hl => match us, hl with | [_, _], _ => rfl), .nil⟩⟩
end
end T
set_option maxHeartbeats 4000000
namespace T
open PySem PySem.Spec PyProof.Rows L2 Z
open S15
theorem nd_take {α : Type} {R : List (Ex × α)} {i : Nat} {e : Ex} {y : α} (nd : Nd R) (hi : R[i]? = some (e, y)) : lkT (R.take i) e = none := by
  refine lkT_none.mpr fun p0 m0 e0 => ?_
  have nd2 : Nd (R.take i ++ [(e, y)]) := by
    rw [← take_succ' hi]
    unfold Nd
    rw [List.map_take]
    exact nd.sublist (List.take_sublist _ _)
  unfold Nd at nd2
  rw [List.map_append, List.nodup_append] at nd2
  exact nd2.2.2 p0.1 (List.mem_map_of_mem m0) e (by simp) e0
theorem nd_tk {α : Type} {R : List (Ex × α)} (i : Nat) (nd : Nd R) : Nd (R.take i) := by
  unfold Nd
  rw [List.map_take]
  exact nd.sublist (List.take_sublist _ _)
theorem srt_of {K : Frag} {H : Hp} {n : Nat} {R R' : List En} {F G : Ex → Int} {N : Int} (hc : Cn n F (ks R)) (hk : ks R' = ks R) (nz : ∀ e, F e ≠ 0 ↔ G e ≠ 0) (tel : Tel R' G) (en : EnA K H n R' N) : Srt K H n R' G N := ⟨by rw [hk]; exact cn_congr hc nz, tel, en⟩
theorem u_negF {K : Frag} {u : V → Hp → VK → Prop} {H : Hp} {Q : VK} {E : XK} {p : Addr} {T w : Int} {C : Nat} (h : Fr K H p T w) (w0 : 0 < w) (bw : Bits C w) (hC : C ≤ 4000) (k : ∀ x H', Same H H' → Fr K H' x (-T) w → Q (.ref x) H') : rOr1 u (rOwn1 (He.ga K "Ratio") (sp1 (fs_fneg K)) E) (.ref p) H Q := by
  obtain ⟨t, b, hr, _⟩ := id h
  exact z_ownN hr ⟨_, rfl, p, T, w, C, rfl, h, w0, bw, hC, k⟩
theorem u_addF {K : Frag} {r0 : R2} {H : Hp} {Q : VK} {E : XK} {p r : Addr} {T T' w : Int} {B : Nat} (h1 : Fr K H p T w) (h2 : Fr K H r T' w) (w0 : 0 < w) (bT : Bits B T) (bT' : Bits B T') (bw : Bits 600 w) (hB : B ≤ 100000)
    (k : ∀ x H', Same H H' → Fr K H' x (T + T') w → Q (.ref x) H') : rOr r0 (rOwn2 (He.ga K "Ratio") (sp2 (fs_fadd K)) E) (.ref p) (.ref r) H Q := by
  obtain ⟨t, b, ⟨dx, q1⟩, z⟩ := id h1
  obtain ⟨t', b', ⟨dy, q2⟩, z'⟩ := id h2
  exact z_own2 q1 q2 ⟨_, _, rfl, p, r, T, w, T', w, B, 600, rfl, rfl, h1, h2, w0, w0, bT, bT', bw, bw, hB, by decide, fun x H' s q => ⟨⟨x, rfl⟩, k x H' s (q.cast (Int.mul_pos w0 w0) (by grind))⟩⟩
section
variable {K : Frag} {α : Type} {σ : L2.St} {H1 : Hp} {Q : VK} {tk' tv : TE} {g : TG} {vs : List Nat} {a : Addr} {xs : List V} {f : α → V}
theorem z_dcTW (h : H1 a = some (.tup xs)) (f : α → V) (P : Nat → Hp → List (Ex × α) → Prop) (m : ∀ i H H' T, SameD H H' → P i H T → P i H' T) (hl : ∀ i H T, P i H T → T.length ≤ i) (hn : xs.length ≤ 16777216) (h0 : ∀ H, P 0 H [])
    (hs : ∀ k x H T (N : V → VK), xs[k]? = some x → Same H1 H → P k H T → (∀ e y q H4, Same H H4 → H4 q = some (.tup (e.map V.int)) → P (k + 1) H4 (ptT T e y) → N (.ref q) (f y) H4) →
      g x (wipe σ vs) H fun σ2 H2 => wipe σ2 vs = wipe σ vs ∧ tk' σ2 H2 fun y H6 => tv σ2 H6 fun z H7 => N y z H7)
    (k : ∀ D H' T, H1 D = none → Same H1 H' → H' D = some (.dT (enT f T)) → P xs.length H' T → Q (.ref D) H') : ∃ b, V.ref a = .ref b ∧ (∃ xs, SqT K H1 b xs) ∧ zDc (Itt K b) g tYes tk' tv vs σ H1 Q := by
  refine ⟨a, rfl, ⟨_, SqT.of h⟩, z_dcW (walk_tup (K := K) (a := a) (xs := xs)) P m hl hn h0 (fun H' s => SqT.of (s _ _ h)) (fun i x H H' T N hi s p y cN => ?_) k⟩
  obtain ⟨rfl, hx⟩ := y
  exact hs i x H' T N hx s p cN
end
theorem vl_nu_pt {T : List En} {e k : Ex} {y : Addr × Int} (nd : Nd T) : vl (nu (ptT T e y)) k = if k = e then y.2 else vl (nu T) k := by
  rw [vl_lk (nu_nd (nd_pt nd)), lk_nu, lk_pt, vl_lk (nu_nd nd), lk_nu]
  split <;> rfl
theorem vl_nu_tk {R : List En} {i : Nat} {e k : Ex} {y : Addr × Int} (hi : R[i]? = some (e, y)) : vl (nu (R.take (i + 1))) k = vl (nu (R.take i)) k + if e = k then y.2 else 0 := by
  rw [take_succ' hi]
  unfold nu
  rw [List.map_append, vl_app]
  show _ + ((if e = k then y.2 else 0) + 0) = _
  omega
theorem vl_nu_lk {T : List En} {e : Ex} (nd : Nd T) : vl (nu T) e = ((lkT T e).map (·.2)).getD 0 := by rw [vl_lk (nu_nd nd), lk_nu]
def fs_oneg (K : Frag) : F1 := fun a H Q _ => ∃ (f : Addr) (n : Nat) (F : Ex → Int) (N : Int) (B S : Nat), a = .ref f ∧ Fo K H f n F N B S ∧ S ≤ 100000 ∧ ∀ x H', Same H H' → Fo K H' x n (fun e => -F e) N B S → Q (.ref x) H'
def fs_oscl (K : Frag) : F2 := fun a b H Q _ => ∃ (f r : Addr) (n : Nat) (F : Ex → Int) (N T w : Int) (B S : Nat), a = .ref f ∧ b = .ref r ∧ Fo K H f n F N B S ∧ Fr K H r T w ∧ S ≤ 100000 ∧ B ≤ 90000 ∧ 0 < T ∧ Bits 600 T ∧ 0 < w ∧ Bits 600 (N * w) ∧ Bits 600 w ∧
  ∀ x H', Same H H' → Fo K H' x n (fun e => F e * T) (N * w) (B + 600) S → Q (.ref x) H'
def fs_otop (K : Frag) : F1 := fun a H Q _ => ∃ (f : Addr) (n : Nat) (F : Ex → Int) (N : Int) (B S : Nat) (d : Int), a = .ref f ∧ Fo K H f n F N B S ∧ S ≤ 100000 ∧ Dg F d ∧ ∀ x H', Same H H' → Fo K H' x n (hp d F) N B S → Q (.ref x) H'
def fs_oadd (K : Frag) : F2 := fun a b H Q _ => ∃ (f g : Addr) (n : Nat) (F G : Ex → Int) (N : Int) (B S S' : Nat), a = .ref f ∧ b = .ref g ∧ Fo K H f n F N B S ∧ Fo K H g n G N B S' ∧ S + S' ≤ 100000 ∧ B ≤ 90000 ∧
  ∀ x H', Same H H' → Fo K H' x n (fun e => F e + G e) N (B + 1) (S + S') → Q (.ref x) H'
def fs_osub (K : Frag) : F2 := fun a b H Q _ => ∃ (f g : Addr) (n : Nat) (F G : Ex → Int) (N : Int) (B S S' : Nat), a = .ref f ∧ b = .ref g ∧ Fo K H f n F N B S ∧ Fo K H g n G N B S' ∧ S + S' ≤ 100000 ∧ B ≤ 90000 ∧
  ∀ x H', Same H H' → Fo K H' x n (fun e => F e - G e) N (B + 1) (S + S') → Q (.ref x) H'
local macro_rules | `(tactic| walk_at "z") => `(tactic| with_reducible refine z_fldS ?_)
local macro_rules | `(tactic| walk_at "z") => `(tactic| ((with_reducible refine' z_fdt ?zc1 ?zc2 ?zl2 ?_); (case zc1 => exact Lw.cl_Ratio (by assumption)); (case zc2 => exact Lw.na_Ratio_top (by assumption)); (case zl2 => walk_at "up")))
local macro_rules | `(tactic| walk_at "z") => `(tactic| ((with_reducible refine' z_fdb ?zc1 ?zc2 ?zl2 ?_); (case zc1 => exact Lw.cl_Ratio (by assumption)); (case zc2 => exact Lw.na_Ratio_bottom (by assumption)); (case zl2 => walk_at "up")))
local macro_rules | `(tactic| walk_at "up") => `(tactic| first
  | assumption
  | (refine' IsR.mono (by assumption) ?zup; case zup => walk_at "up")
  | (refine' IsE.mono (by assumption) ?zup; case zup => walk_at "up")
  | (refine' Same.at (by assumption) ?zup; case zup => walk_at "up")
  | (refine' SqL.of ?zup; case zup => walk_at "up")
  | (refine' L2.Same.seq (by assumption) ?zup; case zup => walk_at "up"))
local macro_rules | `(tactic| walk_at "z") => `(tactic| first
  | ((with_reducible refine' z_var ?zvh ?_); (case zvh => exact rfl))
  | with_reducible refine z_c ?_
  | with_reducible refine z_cons ?_
  | with_reducible refine z_nil ?_
  | with_reducible refine z_op ?_
  | with_reducible refine z_nx ?_
  | with_reducible refine z_seq ?_
  | with_reducible refine z_asg ?_
  | with_reducible refine z_asgG ?_
  | with_reducible refine z_call ?_
  | with_reducible refine z_sq0 ?_
  | with_reducible refine z_sq1 ?_
  | with_reducible refine z_ifS ?_
  | with_reducible refine z_test ?_
  | with_reducible refine z_tb ?_
  | with_reducible refine z_bl ?_
  | with_reducible refine z_blI ?_
  | with_reducible refine z_ret ?_
  | with_reducible refine z_rt ?_
  | with_reducible refine z_T ?_
  | with_reducible refine z_F ?_
  | with_reducible refine z_add ?_
  | with_reducible refine z_sub ?_
  | with_reducible refine z_neg ?_
  | with_reducible refine z_un ?_
  | with_reducible refine z_eqI ?_
  | with_reducible refine z_neI ?_
  | with_reducible refine z_lt ?_
  | with_reducible refine z_le ?_
  | with_reducible refine z_gt ?_
  | with_reducible refine z_ge ?_
  | with_reducible refine z_not ?_
  | with_reducible refine z_and ?_
  | with_reducible refine z_or ?_
  | with_reducible refine z_andV ?_
  | with_reducible refine z_orV ?_
  | with_reducible refine z_notV ?_
  | with_reducible refine z_if ?_
  | with_reducible refine z_cb ?_
  | with_reducible refine z_int1 ?_
  | with_reducible refine z_intb ?_
  | with_reducible refine z_abs ?_
  | with_reducible refine z_gcd ?_
  | with_reducible refine z_isi_ii ?_
  | with_reducible refine z_isi_ib ?_
  | with_reducible refine z_next ?_
  | with_reducible refine z_drop ?_
  | with_reducible refine z_par ?_
  | with_reducible refine z_par2 ?_
  | with_reducible refine z_tupN ?_
  | with_reducible refine z_lstN ?_
  | ((with_reducible refine' z_nt ?zl1 ?_); (case zl1 => exact Nat.le_of_ble_eq_true rfl); intro p H' hp hs he)
  | ((with_reducible refine' z_gtup ?zl1 ?zl2 ?_); (case zl1 => walk_at "up"); (case zl2 => exact rfl))
  | with_reducible refine z_bk ?_
  | with_reducible refine z_ct ?_
  | with_reducible refine z_break ?_
  | with_reducible refine z_cont ?_
  | with_reducible refine z_retN ?_
  | with_reducible refine z_nn ?_
  | with_reducible refine z_mk ?_
  | with_reducible refine z_gn ?_
  | with_reducible refine z_gcons ?_
  | with_reducible refine z_gnil ?_
  | with_reducible refine z_mt ?_
  | with_reducible refine z_mko ?_
  | with_reducible refine z_for2 ?_
  | with_reducible refine z_ownI ?_
  | ((with_reducible refine' z_lenL ?zl1 ?_); (case zl1 => walk_at "up"))
  | ((with_reducible refine' z_ixT ?zl1 ?zl2 ?_); (case zl1 => walk_at "up"); (case zl2 => exact rfl))
  | ((with_reducible refine' z_mulL ?zl1 ?zl2 ?_); (case zl1 => omega); (case zl2 => omega))
  | ((with_reducible refine' z_mulR ?zl1 ?zl2 ?_); (case zl1 => omega); (case zl2 => omega))
  | ((with_reducible refine' z_divS ?zl1 ?zl2 ?_); (case zl1 => omega); (case zl2 => omega))
  | ((with_reducible refine' z_mulW ?zl1 ?zl2 ?zl3 ?zl4 ?_); (case zl1 => omega); (case zl2 => omega); (case zl3 => omega); (case zl4 => omega))
  | ((with_reducible refine' z_divW ?zl1 ?zl2 ?_); (case zl1 => omega); (case zl2 => omega)))
local macro_rules | `(tactic| walk_at "zz") => `(tactic| repeat (walk_at "z"))
local macro_rules | `(tactic| walk_at "z") => `(tactic| with_reducible refine z_lstN ?_)
local macro_rules | `(tactic| walk_at "z") => `(tactic| with_reducible refine z_p6 ?_)
local macro_rules | `(tactic| walk_at "z") => `(tactic| with_reducible refine z_p12 ?_)
local macro_rules | `(tactic| walk_at "z") => `(tactic| with_reducible refine z_p13 ?_)
local macro_rules | `(tactic| walk_at "z") => `(tactic| with_reducible refine z_calln ?_)
local macro_rules | `(tactic| walk_at "z") => `(tactic| with_reducible refine z_xfS ?_)
local macro_rules | `(tactic| walk_at "z") => `(tactic| with_reducible refine z_lcS ?_)
local macro_rules | `(tactic| walk_at "z") => `(tactic| with_reducible refine z_lcRS ?_)
local macro_rules | `(tactic| walk_at "z") => `(tactic| with_reducible refine z_lcZS ?_)
local macro_rules | `(tactic| walk_at "z") => `(tactic| with_reducible refine z_foS ?_)
local macro_rules | `(tactic| walk_at "z") => `(tactic| with_reducible refine z_for1 ?_)
local macro_rules | `(tactic| walk_at "z") => `(tactic| with_reducible refine z_tsl ?_)
local macro_rules | `(tactic| walk_at "z") => `(tactic| with_reducible refine z_np ?_)
local macro_rules | `(tactic| walk_at "z") => `(tactic| with_reducible refine z_pt ?_)
local macro_rules | `(tactic| walk_at "z") => `(tactic| with_reducible refine z_pti ?_)
local macro_rules | `(tactic| walk_at "z") => `(tactic| with_reducible refine z_catI ?_)
local macro_rules | `(tactic| walk_at "z") => `(tactic| with_reducible refine z_isNI ?_)
local macro_rules | `(tactic| walk_at "z") => `(tactic| with_reducible refine z_isNN ?_)
local macro_rules | `(tactic| walk_at "z") => `(tactic| with_reducible refine z_notNI ?_)
local macro_rules | `(tactic| walk_at "z") => `(tactic| with_reducible refine z_notNN ?_)
local macro_rules | `(tactic| walk_at "z") => `(tactic| with_reducible refine z_gsub ?_)
local macro_rules | `(tactic| walk_at "z") => `(tactic| with_reducible refine z_isNb ?_)
local macro_rules | `(tactic| walk_at "z") => `(tactic| with_reducible refine z_notNb ?_)
local macro_rules | `(tactic| walk_at "z") => `(tactic| ((with_reducible refine' z_nlR ?zl1 ?_); (case zl1 => exact Nat.le_of_ble_eq_true rfl); intro p H' hp hs he))
local macro_rules | `(tactic| walk_at "z") => `(tactic| ((with_reducible refine' z_repR ?zl1 ?zl2 ?_); (case zl1 => omega); (case zl2 => omega)))
local macro_rules | `(tactic| walk_at "z") => `(tactic| ((with_reducible refine' z_repL ?zl1 ?zl2 ?_); (case zl1 => omega); (case zl2 => omega)))
local macro_rules | `(tactic| walk_at "z") => `(tactic| ((with_reducible refine' z_lenLst ?zl1 ?_); (case zl1 => walk_at "up")))
local macro_rules | `(tactic| walk_at "z") => `(tactic| ((with_reducible refine' z_cat ?zl1 ?zl2 ?zl3 ?_); (case zl1 => walk_at "up"); (case zl2 => walk_at "up"); (case zl3 => (simp only [List.length_map, List.length_cons, List.length_nil, List.length_append, List.length_replicate]; omega)); intro p H' hp hs he))
local macro_rules | `(tactic| walk_at "z") => `(tactic| with_reducible refine z_sfl ?_)
local macro_rules | `(tactic| walk_at "z") => `(tactic| with_reducible refine z_lcES ?_)
local macro_rules | `(tactic| walk_at "z") => `(tactic| with_reducible refine z_lcMS ?_)
local macro_rules | `(tactic| walk_at "z") => `(tactic| with_reducible refine z_foES ?_)
local macro_rules | `(tactic| walk_at "z") => `(tactic| with_reducible refine z_fo3S ?_)
local macro_rules | `(tactic| walk_at "z") => `(tactic| with_reducible refine z_sta ?_)
local macro_rules | `(tactic| walk_at "z") => `(tactic| with_reducible refine z_sta1 ?_)
local macro_rules | `(tactic| walk_at "z") => `(tactic| with_reducible refine z_lcTS ?_)
local macro_rules | `(tactic| walk_at "z") => `(tactic| with_reducible refine z_foTS ?_)
local macro_rules | `(tactic| walk_at "z") => `(tactic| with_reducible refine z_revTS ?_)
local macro_rules | `(tactic| walk_at "z") => `(tactic| with_reducible refine z_max2 ?_)
local macro_rules | `(tactic| walk_at "z") => `(tactic| ((with_reducible refine' z_fldt ?zc1 ?zc2 ?zl1 ?zl2 ?_); (case zc1 => exact Lw.cl_Ratio (by assumption)); (case zc2 => exact Lw.na_Ratio_top (by assumption)); (case zl1 => exact rfl); (case zl2 => walk_at "up")))
local macro_rules | `(tactic| walk_at "z") => `(tactic| ((with_reducible refine' z_fldb ?zc1 ?zc2 ?zl1 ?zl2 ?_); (case zc1 => exact Lw.cl_Ratio (by assumption)); (case zc2 => exact Lw.na_Ratio_bottom (by assumption)); (case zl1 => exact rfl); (case zl2 => walk_at "up")))
local macro_rules | `(tactic| walk_at "z") => `(tactic| ((with_reducible refine' u_mtF ?zl1 ?_); (case zl1 => walk_at "up")))
local macro_rules | `(tactic| walk_at "z") => `(tactic| ((with_reducible refine' z_ixLst ?zl1 ?zl2 ?_); (case zl1 => walk_at "up"); (case zl2 => exact rfl)))
local macro_rules | `(tactic| walk_at "z") => `(tactic| with_reducible refine z_yes ?_)
local macro_rules | `(tactic| walk_at "z") => `(tactic| with_reducible refine z_if1 ?_)
local macro_rules | `(tactic| walk_at "z") => `(tactic| with_reducible refine z_dg ?_)
local macro_rules | `(tactic| walk_at "z") => `(tactic| with_reducible refine z_di ?_)
local macro_rules | `(tactic| walk_at "z") => `(tactic| with_reducible refine z_dp ?_)
local macro_rules | `(tactic| walk_at "z") => `(tactic| with_reducible refine z_foKS ?_)
local macro_rules | `(tactic| walk_at "z") => `(tactic| with_reducible refine z_foPS ?_)
local macro_rules | `(tactic| walk_at "z") => `(tactic| with_reducible refine z_foTS ?_)
local macro_rules | `(tactic| walk_at "z") => `(tactic| with_reducible refine z_lcKS ?_)
local macro_rules | `(tactic| walk_at "z") => `(tactic| with_reducible refine z_lcTS ?_)
local macro_rules | `(tactic| walk_at "z") => `(tactic| with_reducible refine z_dcTS ?_)
local macro_rules | `(tactic| walk_at "z") => `(tactic| with_reducible refine z_dcPS ?_)
local macro_rules | `(tactic| walk_at "z") => `(tactic| with_reducible refine z_fixV ?_)
local macro_rules | `(tactic| walk_at "z") => `(tactic| with_reducible refine z_mkk ?_)
local macro_rules | `(tactic| walk_at "z") => `(tactic| with_reducible refine z_sta ?_)
local macro_rules | `(tactic| walk_at "z") => `(tactic| with_reducible refine z_sta1 ?_)
local macro_rules | `(tactic| walk_at "z") => `(tactic| with_reducible refine z_ckw ?_)
local macro_rules | `(tactic| walk_at "z") => `(tactic| with_reducible refine z_cmpD ?_)
local macro_rules | `(tactic| walk_at "z") => `(tactic| with_reducible refine z_pk1 ?_)
local macro_rules | `(tactic| walk_at "z") => `(tactic| with_reducible refine z_tBD ?_)
local macro_rules | `(tactic| walk_at "z") => `(tactic| ((with_reducible refine' z_fl ?zc1 ?zc2 ?zl1 ?zl2 ?_); (case zc1 => exact Lw.cl_Form (by assumption)); (case zc2 => exact Lw.na_Form_letters (by assumption)); (case zl1 => exact rfl); (case zl2 => walk_at "up")))
local macro_rules | `(tactic| walk_at "z") => `(tactic| ((with_reducible refine' z_ft ?zc1 ?zc2 ?zl1 ?zl2 ?_); (case zc1 => exact Lw.cl_Form (by assumption)); (case zc2 => exact Lw.na_Form_terms (by assumption)); (case zl1 => exact rfl); (case zl2 => walk_at "up")))
local macro_rules | `(tactic| walk_at "z") => `(tactic| ((with_reducible refine' z_fd ?zc1 ?zc2 ?zl1 ?zl2 ?_); (case zc1 => exact Lw.cl_Form (by assumption)); (case zc2 => exact Lw.na_Form_degree (by assumption)); (case zl1 => exact rfl); (case zl2 => walk_at "up")))
theorem sameFC {H H1 H2 : Hp} (h : Same H1 H2) (e : Same H H1) : Same H H2 := e.trans h
local macro_rules | `(tactic| walk_at "sm") => `(tactic| first
  | assumption
  | exact fun _ _ h => h
  | (refine' sameFC (by assumption) ?zsm; case zsm => walk_at "sm"))
local macro_rules | `(tactic| walk_at "up") => `(tactic| first
  | assumption
  | (with_reducible refine' IsR.mono (by assumption) ?zup; case zup => walk_at "up")
  | (with_reducible refine' Fr.mono (by assumption) ?zup; case zup => walk_at "up")
  | (with_reducible refine' IsFm.mono (by assumption) ?zup; case zup => walk_at "up")
  | (with_reducible refine' Frz.mono (by assumption) ?zup; case zup => walk_at "up")
  | (with_reducible refine' Fo.mono (by assumption) ?zup; case zup => walk_at "up")
  | (with_reducible refine' La.mono (by assumption) ?zup; case zup => walk_at "up")
  | (with_reducible refine' Ta.mono (by assumption) ?zup; case zup => walk_at "up")
  | (with_reducible refine' PrL.mono (by assumption) ?zup; case zup => walk_at "up")
  | (with_reducible refine' EnA.mono (by assumption) ?zup; case zup => walk_at "up")
  | (with_reducible refine' Srt.mono (by assumption) ?zup; case zup => walk_at "up")
  | (with_reducible refine' Same.at (by assumption) ?zup; case zup => walk_at "up")
  | fail)
section
variable {P : Program} {w : World} {K : Frag} {mg : Str → Option Value} {base : Heap}
theorem ok_FormD_negD (L : Lw K mg) {fd : FuncData} (F : FunD K "__neg__" "Form.__neg__" (defArgs s_FormD_negD) (defBody s_FormD_negD) (defScope s_FormD_negD) (df_FormD_negD.dvs K) (df_FormD_negD.kws K) (He.fAd K ("Form", some "__neg__")) fd) : FnOk P w K mg base (L2N.CX P w) 7 (He.fAd K ("Form", some "__neg__")) fd (["self"] : List Str) (sp1 (fs_oneg K)) := by
  refine FunD.ok F sc_FormD_negD len1 (fun cdv A outer s H vs Q E hr h => ?_)
  obtain ⟨a, rfl, h⟩ := h
  refine ⟨_, (pss_one (ps_ret (pe_mkk (ck_FormD_initD_2_sure (K := K) L) hr (by decide) passF (pa_cons (pe_fld (pv 0) rfl) (pa_cons (pe_lc (own := [("exponents", 1), ("ratio", 2)]) (g := (gTup K 2 (gCons (gName 1) (gCons (gName 2) gNil)))) (tt := tYes) rfl sc_FormD_negD.nd (pi_tupK (K := K) rfl (pe_fld (pv 0) rfl)) (blkOk_by (N := ["self", "exponents", "ratio"]) (sc := defScope s_FormD_negD) (by decide +kernel)) (fun _ _ _ _ _ => pgK (fun K => gTup K 2 (gCons (gName 1) (gCons (gName 2) gNil))) (K := K) rfl (pg_tup rfl (pgs_cons (pg_name (i := 1) sc_FormD_negD.nd rfl (Or.inl rfl)) (pgs_cons (pg_name (i := 2) sc_FormD_negD.nd rfl (Or.inl rfl)) pgs_nil)))) (fun _ _ _ _ _ => pts_nil) (fun _ _ _ _ _ => (pe_tup (pa_cons (pv 1) (pa_cons (pe_un (un_or2 o_neg (un_own (c_RatioD_negD (K := K) L) hr (by decide) passF)) (pv 2)) pa_nil))))) pa_nil)) (pk_cons pe_bl pk_nil)))), ?_⟩
  rw [show L2.start (["self", "exponents", "ratio"] : List Str) [a] = [some a, none, none] from rfl]
  obtain ⟨f, n, F, N, B, S, rfl, hF, hS, k⟩ := h
  obtain ⟨p, xs, R, hfm, hp, hpl, hs, N0, bN, bF, lR⟩ := id hF
  try dsimp only [List.set]
  walk_at "zz"
  refine z_lcTW hp (fun i H ys => ∃ Ri : List En, PrL K H ys Ri (N) ∧ ks Ri = (ks R).take i ∧ (∀ p, p ∈ Ri → p.2.2 = -F p.1) ∧ EnA K H n Ri (N)) (fun i H H' ys s p => ?_) (fun i H ys p => ?_) (by rw [hpl.1]; omega) (fun H => ⟨[], PrL.nil, rfl, (fun p m => nomatch m), (fun p m => nomatch m)⟩) (fun i x H1 ys Nx Mx hi s1 p cN cM => ?_) (fun D H1 ys hD s1 h1 p => ?_)
  · obtain ⟨Ri, p1, p2, p3, p4⟩ := p
    exact ⟨Ri, p1.monoD (SameD.ofN s), p2, p3, p4.monoD (SameD.ofN s)⟩
  · obtain ⟨Ri, p1, p2, p3, p4⟩ := p
    have := congrArg List.length p2
    rw [List.length_take] at this
    unfold ks at this
    rw [List.length_map] at this
    rw [p1.1]
    omega
  · obtain ⟨⟨e, r, y⟩, hR, t, q, rfl, ht, hq, hfr⟩ := (hpl.mono s1).at hi
    have hy := hs.tel _ (List.mem_of_getElem? hR)
    have hsh := (hs.en _ (List.mem_of_getElem? hR)).1
    dsimp only at ht hq hfr hy hsh
    have hk : (ks R)[i]? = some e := by
      unfold ks
      rw [List.getElem?_map, hR]
      rfl
    try dsimp only [List.set]
    walk_at "zz"
    refine ⟨rfl, ?_⟩
    try dsimp only [List.set]
    walk_at "zz"
    refine u_negF hfr N0 bN (by decide) (fun r2 H2 s2 f2 => ?_)
    try dsimp only [List.set]
    walk_at "zz"
    rename_i tt H3 htt s3 et
    obtain ⟨Ri, p1, p2, p3, p4⟩ := p
    refine cN _ _ (s2.trans s3) ⟨Ri ++ [(e, r2, -y)], (p1.mono (s2.trans s3)).snoc ⟨tt, q, rfl, et, (s2.trans s3) _ _ hq, f2.mono s3⟩, ?_, fun p m => ?_, fun p m => ?_⟩
    · rw [take_succ' hk, ← p2]
      unfold ks
      rw [List.map_append]
      rfl
    · rcases List.mem_append.mp m with m | m
      · exact p3 p m
      · rw [List.mem_singleton.mp m]
        show -y = -F e
        rw [hy]
    · rcases List.mem_append.mp m with m | m
      · exact p4.mono (s2.trans s3) p m
      · rw [List.mem_singleton.mp m]
        exact ⟨hsh, f2.mono s3⟩
  obtain ⟨R2, p1, p2, p3, p4⟩ := p
  have lk2 : xs.length = (ks R).length := by
    unfold ks
    rw [List.length_map]
    exact hpl.1
  rw [lk2, List.take_length] at p2
  have l2 : R2.length ≤ S := by
    have := congrArg List.length p2
    unfold ks at this
    rw [List.length_map, List.length_map] at this
    omega
  try dsimp only [List.set]
  walk_at "zz"
  refine u_mkS h1 p1 (srt_of (G := fun e => -F e) hs.cn p2 (fun e => by omega) p3 p4) l2 (fun x H2 s2 f2 => ?_)
  try dsimp only [List.set]
  walk_at "zz"
  exact k x H2 (s1.trans s2) (Fo.of f2 N0 bN (fun e => (bF e).neg))
theorem c_FormD_negD (L : Lw K mg) : Met P w K mg base 7 (He.ga K "Form") "__neg__" (sp1 (fs_oneg K)) [] := by
  obtain ⟨fd, F⟩ := L.d_FormD_negD
  exact ⟨⟨_, fd, ["self"], [], L.cl_Form, L.me_FormD_negD, ok_FormD_negD L F, F.bindsN (fun _ _ _ _ _ _ us hl => match us, hl with | [_], _ => rfl), .nil⟩⟩
theorem ok_Form_scaled (L : Lw K mg) {fd : FuncData} (F : FunD K "scaled" "Form.scaled" (defArgs s_Form_scaled) (defBody s_Form_scaled) (defScope s_Form_scaled) (df_Form_scaled.dvs K) (df_Form_scaled.kws K) (He.fAd K ("Form", some "scaled")) fd) : FnOk P w K mg base (L2N.CX P w) 7 (He.fAd K ("Form", some "scaled")) fd (["self", "ratio"] : List Str) (sp2 (fs_oscl K)) := by
  refine FunD.ok F sc_Form_scaled len2 (fun cdv A outer s H vs Q E hr h => ?_)
  obtain ⟨a, b, rfl, h⟩ := h
  refine ⟨_, (pss_cons (ps_if (pt_cmpR op_eq (pe_fld (pv 1) rfl) pe_int (nomark _)) (pss_one ps_never) pss_nil)
    (pss_one (ps_ret (pe_mkk (ck_FormD_initD_2_sure (K := K) L) hr (by decide) passF (pa_cons (pe_fld (pv 0) rfl) (pa_cons (pe_lc (own := [("exponents", 2), ("old", 3)]) (g := (gTup K 2 (gCons (gName 2) (gCons (gName 3) gNil)))) (tt := tYes) rfl sc_Form_scaled.nd (pi_tupK (K := K) rfl (pe_fld (pv 0) rfl)) (blkOk_by (N := ["self", "ratio", "exponents", "old"]) (sc := defScope s_Form_scaled) (by decide +kernel)) (fun _ _ _ _ _ => pgK (fun K => gTup K 2 (gCons (gName 2) (gCons (gName 3) gNil))) (K := K) rfl (pg_tup rfl (pgs_cons (pg_name (i := 2) sc_Form_scaled.nd rfl (Or.inl rfl)) (pgs_cons (pg_name (i := 3) sc_Form_scaled.nd rfl (Or.inl rfl)) pgs_nil)))) (fun _ _ _ _ _ => pts_nil) (fun _ _ _ _ _ => (pe_tup (pa_cons (pv 2) (pa_cons (pe_op (op_or2 o_rep (op_own (by rfl) L.sf_Ratio (c_RatioD_mulD (K := K) L) hr (by decide) passF)) (pv 3) (pv 1)) pa_nil))))) pa_nil)) (pk_cons pe_bl pk_nil))))), ?_⟩
  rw [show L2.start (["self", "ratio", "exponents", "old"] : List Str) [a, b] = [some a, some b, none, none] from rfl]
  obtain ⟨f, r0, n, F, N, T, w, B, S, rfl, rfl, hF, hr, hS, hB, T0, bT, w0, bNw, bw, k⟩ := h
  obtain ⟨p, xs, R, hfm, hp, hpl, hs, N0, bN, bF, lR⟩ := id hF
  obtain ⟨t0, b0, ht0, b0p, g0, eq0⟩ := id hr
  have nz0 : ¬ t0 = 0 := fun z => by
    have := (fr_zero b0p w0 eq0).mp z
    omega
  try dsimp only [List.set]
  walk_at "zz"
  refine z_d2 (fun c => absurd c nz0) (fun c => ?_)
  try dsimp only [List.set]
  walk_at "zz"
  refine z_lcTW hp (fun i H ys => ∃ Ri : List En, PrL K H ys Ri (N * w) ∧ ks Ri = (ks R).take i ∧ (∀ p, p ∈ Ri → p.2.2 = F p.1 * T) ∧ EnA K H n Ri (N * w)) (fun i H H' ys s p => ?_) (fun i H ys p => ?_) (by rw [hpl.1]; omega) (fun H => ⟨[], PrL.nil, rfl, (fun p m => nomatch m), (fun p m => nomatch m)⟩) (fun i x H1 ys Nx Mx hi s1 p cN cM => ?_) (fun D H1 ys hD s1 h1 p => ?_)
  · obtain ⟨Ri, p1, p2, p3, p4⟩ := p
    exact ⟨Ri, p1.monoD (SameD.ofN s), p2, p3, p4.monoD (SameD.ofN s)⟩
  · obtain ⟨Ri, p1, p2, p3, p4⟩ := p
    have := congrArg List.length p2
    rw [List.length_take] at this
    unfold ks at this
    rw [List.length_map] at this
    rw [p1.1]
    omega
  · obtain ⟨⟨e, r, y⟩, hR, t, q, rfl, ht, hq, hfr⟩ := (hpl.mono s1).at hi
    have hy := hs.tel _ (List.mem_of_getElem? hR)
    have hsh := (hs.en _ (List.mem_of_getElem? hR)).1
    dsimp only at ht hq hfr hy hsh
    have hk : (ks R)[i]? = some e := by
      unfold ks
      rw [List.getElem?_map, hR]
      rfl
    try dsimp only [List.set]
    walk_at "zz"
    refine ⟨rfl, ?_⟩
    try dsimp only [List.set]
    walk_at "zz"
    refine u_fmul (B := B + 600) (C := 600) hfr (hr.mono s1) N0 w0 (by rw [hy]; exact (bF e).up (by omega)) (bT.up (by omega)) bN bw (by omega) (by decide) (fun r2 H2 s2 f2 => ?_)
    try dsimp only [List.set]
    walk_at "zz"
    rename_i tt H3 htt s3 et
    obtain ⟨Ri, p1, p2, p3, p4⟩ := p
    refine cN _ _ (s2.trans s3) ⟨Ri ++ [(e, r2, y * T)], (p1.mono (s2.trans s3)).snoc ⟨tt, q, rfl, et, (s2.trans s3) _ _ hq, f2.mono s3⟩, ?_, fun p m => ?_, fun p m => ?_⟩
    · rw [take_succ' hk, ← p2]
      unfold ks
      rw [List.map_append]
      rfl
    · rcases List.mem_append.mp m with m | m
      · exact p3 p m
      · rw [List.mem_singleton.mp m]
        show y * T = F e * T
        rw [hy]
    · rcases List.mem_append.mp m with m | m
      · exact p4.mono (s2.trans s3) p m
      · rw [List.mem_singleton.mp m]
        exact ⟨hsh, f2.mono s3⟩
  obtain ⟨R2, p1, p2, p3, p4⟩ := p
  have lk2 : xs.length = (ks R).length := by
    unfold ks
    rw [List.length_map]
    exact hpl.1
  rw [lk2, List.take_length] at p2
  have l2 : R2.length ≤ S := by
    have := congrArg List.length p2
    unfold ks at this
    rw [List.length_map, List.length_map] at this
    omega
  try dsimp only [List.set]
  walk_at "zz"
  refine u_mkS h1 p1 (srt_of (G := fun e => F e * T) hs.cn p2 (fun e => ?_) p3 p4) l2 (fun x H2 s2 f2 => ?_)
  · constructor
    · intro a b
      rcases Int.mul_eq_zero.mp b with q | q
      · exact a q
      · omega
    · intro a b
      rw [b, Int.zero_mul] at a
      exact a rfl
  try dsimp only [List.set]
  walk_at "zz"
  exact k x H2 (s1.trans s2) (Fo.of f2 (Int.mul_pos N0 w0) bNw (fun e => (bF e).mul bT))
theorem c_Form_scaled (L : Lw K mg) : Met P w K mg base 7 (He.ga K "Form") "scaled" (sp2 (fs_oscl K)) [] := by
  obtain ⟨fd, F⟩ := L.d_Form_scaled
  exact ⟨⟨_, fd, ["self", "ratio"], [], L.cl_Form, L.me_Form_scaled, ok_Form_scaled L F, F.bindsN (fun _ _ _ _ _ _ us hl => match us, hl with | [_, _], _ => rfl), .nil⟩⟩
theorem ok_Form_top_part (L : Lw K mg) {fd : FuncData} (F : FunD K "top_part" "Form.top_part" (defArgs s_Form_top_part) (defBody s_Form_top_part) (defScope s_Form_top_part) (df_Form_top_part.dvs K) (df_Form_top_part.kws K) (He.fAd K ("Form", some "top_part")) fd) : FnOk P w K mg base (L2N.CX P w) 7 (He.fAd K ("Form", some "top_part")) fd (["self"] : List Str) (sp1 (fs_otop K)) := by
  refine FunD.ok F sc_Form_top_part len1 (fun cdv A outer s H vs Q E hr h => ?_)
  obtain ⟨a, rfl, h⟩ := h
  refine ⟨_, (pss_one (ps_ret (pe_mkk (ck_FormD_initD_2_sure (K := K) L) hr (by decide) passF (pa_cons (pe_fld (pv 0) rfl) (pa_cons (pe_lc (own := [("term", 1)]) (g := (gName 1)) (tt := _) rfl sc_Form_top_part.nd (pi_tupK (K := K) rfl (pe_fld (pv 0) rfl)) (blkOk_by (N := ["self", "term"]) (sc := defScope s_Form_top_part) (by decide +kernel)) (fun _ _ _ _ _ => pg_name (i := 1) sc_Form_top_part.nd rfl (Or.inl rfl)) (fun _ _ _ _ _ => (pts_one (pt_cmpR op_eq (pe_callB (callK rSumS (K := K) rfl (cr_sumS rfl)) (by rfl) L.f_sum (by decide +kernel) (pa_cons (pe_ix (ix_seqK (K := K) rfl) (pv 1) pe_int (fun _ _ => rfl)) pa_nil)) (pe_fldK (K := K) rfl (pv 0) rfl) (nomark _)))) (fun _ _ _ _ _ => (pv 1))) pa_nil)) (pk_cons pe_bl pk_nil)))), ?_⟩
  rw [show L2.start (["self", "term"] : List Str) [a] = [some a, none] from rfl]
  obtain ⟨f, n, F, N, B, S, d, rfl, hF, hS, hd, k⟩ := h
  obtain ⟨p, xs, R, hfm, hp, hpl, hs, N0, bN, bF, lR⟩ := id hF
  have ed : dgl (ks R) = d := hs.cn.dg.uniq hd
  try dsimp only [List.set]
  walk_at "zz"
  refine z_lcTW hp (fun i H ys => ∃ Ri : List En, PrL K H ys Ri N ∧ Ri = (R.take i).filter (fun p => decide (p.1.sum = d)) ∧ EnA K H n Ri N) (fun i H H' ys s p => ?_) (fun i H ys p => ?_) (by rw [hpl.1]; omega) (fun H => ⟨[], PrL.nil, rfl, (fun p m => nomatch m)⟩) (fun i x H1 ys Nx Mx hi s1 p cN cM => ?_) (fun D H1 ys hD s1 h1 p => ?_)
  · obtain ⟨Ri, p1, p2, p4⟩ := p
    exact ⟨Ri, p1.monoD (SameD.ofN s), p2, p4.monoD (SameD.ofN s)⟩
  · obtain ⟨Ri, p1, p2, p4⟩ := p
    have l2 := List.length_filter_le (fun p : En => decide (p.1.sum = d)) (R.take i)
    rw [← p2, List.length_take] at l2
    rw [p1.1]
    omega
  · obtain ⟨⟨e, r, y⟩, hR, t, q, rfl, ht, hq, hfr⟩ := (hpl.mono s1).at hi
    have hen := hs.en _ (List.mem_of_getElem? hR)
    dsimp only at ht hq hfr
    obtain ⟨Ri, p1, p2, p4⟩ := p
    try dsimp only [List.set]
    walk_at "zz"
    refine ⟨rfl, ?_⟩
    try dsimp only [List.set]
    walk_at "zz"
    refine z_sumT hq ?_
    try dsimp only [List.set]
    walk_at "zz"
    refine z_d2 (fun c => ?_) (fun c => ?_)
    · try dsimp only [List.set]
      walk_at "zz"
      refine cN _ _ (fun _ _ h => h) ⟨Ri ++ [(e, r, y)], p1.snoc ⟨t, q, rfl, ht, hq, hfr⟩, ?_, fun p m => ?_⟩
      · rw [take_succ' hR, List.filter_append, ← p2, List.filter_cons_of_pos (by rw [← ed]; exact decide_eq_true c)]
        rfl
      · rcases List.mem_append.mp m with m | m
        · exact p4 p m
        · rw [List.mem_singleton.mp m]
          exact ⟨hen.1, hfr⟩
    · try dsimp only [List.set]
      walk_at "zz"
      refine cM _ (fun _ _ h => h) ⟨Ri, p1, ?_, p4⟩
      rw [take_succ' hR, List.filter_append, ← p2, List.filter_cons_of_neg (by rw [← ed]; simpa using c)]
      simp
  obtain ⟨R2, p1, p2, p4⟩ := p
  rw [hpl.1, List.take_length] at p2
  have l2 : R2.length ≤ S := by
    have := List.length_filter_le (fun p : En => decide (p.1.sum = d)) R
    rw [← p2] at this
    omega
  have hk2 : ks R2 = (ks R).filter (fun e => decide (e.sum = d)) := by
    rw [p2]
    unfold ks
    rw [List.filter_map]
    rfl
  try dsimp only [List.set]
  walk_at "zz"
  refine u_mkS h1 p1 (F := S15.hp d F) ⟨?_, fun p m => ?_, p4⟩ l2 (fun x H2 s2 f2 => ?_)
  · rw [hk2]
    exact hs.cn.hp d
  · rw [p2] at m
    have m2 := List.mem_filter.mp m
    unfold S15.hp
    rw [if_pos (of_decide_eq_true m2.2)]
    exact hs.tel p m2.1
  try dsimp only [List.set]
  walk_at "zz"
  exact k x H2 (s1.trans s2) (Fo.of f2 N0 bN (fun e => by
    unfold S15.hp
    split
    · exact bF e
    · exact Bits.zero))
theorem c_Form_top_part (L : Lw K mg) : Met P w K mg base 7 (He.ga K "Form") "top_part" (sp1 (fs_otop K)) [] := by
  obtain ⟨fd, F⟩ := L.d_Form_top_part
  exact ⟨⟨_, fd, ["self"], [], L.cl_Form, L.me_Form_top_part, ok_Form_top_part L F, F.bindsN (fun _ _ _ _ _ _ us hl => match us, hl with | [_], _ => rfl), .nil⟩⟩
theorem ok_FormD_addD (L : Lw K mg) {fd : FuncData} (F : FunD K "__add__" "Form.__add__" (defArgs s_FormD_addD) (defBody s_FormD_addD) (defScope s_FormD_addD) (df_FormD_addD.dvs K) (df_FormD_addD.kws K) (He.fAd K ("Form", some "__add__")) fd) : FnOk P w K mg base (L2N.CX P w) 8 (He.fAd K ("Form", some "__add__")) fd (["self", "other"] : List Str) (sp2 (fs_oadd K)) := by
  refine FunD.ok F sc_FormD_addD len2 (fun cdv A outer s H vs Q E hr h => ?_)
  obtain ⟨a, b, rfl, h⟩ := h
  refine ⟨_, (pss_cons (ps_if (pt_cmpR op_ne (pe_fld (pv 1) rfl) (pe_fld (pv 0) rfl) (nomark _)) (pss_one ps_never) pss_nil)
    (pss_cons (ps_setDcT (i := 2) (own := [("exponents", 3), ("ratio", 4)]) (g := (gTup K 2 (gCons (gName 3) (gCons (gName 4) gNil)))) (tt := tYes) rfl hr sc_FormD_addD.nd rfl rfl (sw_trueD rfl rfl rfl (by decide +kernel)) (pi_tupK (K := K) rfl (pe_fld (pv 0) rfl)) (blkOk_by (N := ["self", "other", "table", "exponents", "ratio"]) (sc := defScope s_FormD_addD) (by decide +kernel)) (fun _ _ _ _ _ => pgK (fun K => gTup K 2 (gCons (gName 3) (gCons (gName 4) gNil))) (K := K) rfl (pg_tup rfl (pgs_cons (pg_name (i := 3) sc_FormD_addD.nd rfl (Or.inl rfl)) (pgs_cons (pg_name (i := 4) sc_FormD_addD.nd rfl (Or.inl rfl)) pgs_nil)))) (fun _ _ _ _ _ => pts_nil) (fun _ _ _ _ _ => (pv 3)) (fun _ _ _ _ _ => (pv 4)))
    (pss_cons (ps_for (passes_of rfl) rfl (pi_tupK (K := K) rfl (pe_fld (pv 1) rfl)) (pg_tup (by rfl) (pgs_cons (pg_name (i := 3) sc_FormD_addD.nd rfl (by first | exact Or.inl rfl | exact Or.inr rfl)) (pgs_cons (pg_name (i := 4) sc_FormD_addD.nd rfl (by first | exact Or.inl rfl | exact Or.inr rfl)) pgs_nil))) (pss_one (ps_dput (hu1 hr) (pv 2) (pv 3) (pe_ifExp (pt_cmp (pc_din (hu1 hr) (pv 3) (pv 2)) rfl) (pe_op (op_or2 o_cat (op_own (by rfl) L.sf_Ratio (c_RatioD_addD (K := K) L) hr (by decide) passF)) (pe_dget (hu1 hr) (pv 2) (pv 3) (fun _ _ => rfl)) (pv 4)) (pv 4)) (by rfl))))
    (pss_one (ps_fix (ps_ret (pe_sm (c_Form_made (K := K) L) hr (by decide) (L2N.takes_of rfl rfl rfl rfl) (pe_cls L.g_Form) (pa_cons (pe_fld (pv 0) rfl) (pa_cons (pv 2) pa_nil))))))))), ?_⟩
  rw [show L2.start (["self", "other", "table", "exponents", "ratio"] : List Str) [a, b] = [some a, some b, none, none, none] from rfl]
  obtain ⟨f, g, n, F, G, N, B, S, S', rfl, rfl, hF, hG, hS, hB, k⟩ := h
  obtain ⟨p, xs, R, hfm, hp, hpl, hs, N0, bN, bF, lR⟩ := id hF
  obtain ⟨p', xs', R', hfm', hp', hpl', hs', N0', bN', bG, lR'⟩ := id hG
  try dsimp only [List.set]
  walk_at "zz"
  refine z_d2 (fun c => ?_) (fun c => absurd rfl c)
  try dsimp only [List.set]
  walk_at "zz"
  refine z_dcTW hp rf (fun i H T => T = R.take i) (fun i H H' T s p => p) (fun i H T p => by rw [p, List.length_take]; omega) (by rw [hpl.1]; omega) (fun H => rfl) (fun i x H1 T Nx hi s1 pT cN => ?_) (fun D H1 T hD s1 h1 pT => ?_)
  · obtain ⟨⟨e, r, y⟩, hR, t, q, rfl, ht, hq, hfr⟩ := (hpl.mono s1).at hi
    dsimp only at ht hq hfr
    try dsimp only [List.set]
    walk_at "zz"
    refine ⟨rfl, ?_⟩
    try dsimp only [List.set]
    walk_at "zz"
    refine cN e (r, y) q _ (fun _ _ h => h) hq ?_
    rw [pT, pt_new (nd_take hs.nd hR), ← take_succ' hR]
  rw [hpl.1, List.take_length] at pT
  rw [pT] at h1
  have nDp : ∀ {a o}, H a = some o → a ≠ D := fun {a o} e z => by
    rw [z, hD] at e
    cases e
  have hfm1 := hfm.mono s1
  have hfm1' := hfm'.mono s1
  try dsimp only [List.set]
  walk_at "zz"
  refine z_foT (s1 _ _ hp') (fun i σ Hi => ∃ o3 o4 T, σ = [some (V.ref f), some (V.ref g), some (V.ref D), o3, o4] ∧ But D H1 Hi ∧ Hi D = some (.dT (enT rf T)) ∧ Nd T ∧ EnA K Hi n T N ∧ (∀ e, vl (nu T) e = F e + vl (nu (R'.take i)) e) ∧ T.length ≤ R.length + i) ⟨_, _, R, rfl, fun _ _ _ e => e, h1, hs.nd, (hs.en.mono s1), fun e => by
    rw [hs.vl]
    show F e = F e + 0
    omega, by omega⟩ (fun i σ Hi q => ?_) (fun i x σ Hi hx q => ?_) (fun σ Hi q => ?_)
  · obtain ⟨o3, o4, T, _, b, _⟩ := q
    exact b _ _ (nDp hp') (s1 _ _ hp')
  · obtain ⟨o3, o4, T, rfl, b, hT, ndT, hen, hv, lT⟩ := q
    have sH : Same H Hi := same_but hD fun a o ne e => b a o ne (s1 _ _ e)
    obtain ⟨⟨e, r, y⟩, hR, t, q, rfl, ht, hq, hfr⟩ := (hpl'.mono sH).at hx
    have hsh := (hs'.en _ (List.mem_of_getElem? hR)).1
    have hy := hs'.tel _ (List.mem_of_getElem? hR)
    dsimp only at ht hq hfr hsh hy
    have no := nd_take hs'.nd hR
    have v0 : vl (nu (R'.take i)) e = 0 := by
      rw [vl_nu_lk (nd_tk i hs'.nd), no]
      rfl
    have hin : i < R'.length := (List.getElem?_eq_some_iff.mp hR).1
    try dsimp only [List.set]
    walk_at "zz"
    refine z_dim hT hq ?_
    cases hl : lkT T e with
    | none =>
      refine ⟨false, rfl, ?_⟩
      rw [if_neg (by decide)]
      try dsimp only [List.set]
      walk_at "zz"
      refine z_dpm (x := (r, y)) hT hq (by omega) ?_
      refine ⟨_, _, ptT T e (r, y), rfl, put_but b, upd_same, nd_pt ndT, (hen.pt hsh hfr).monoD (SameD.put hT), fun e2 => ?_, ?_⟩
      · rw [vl_nu_pt ndT, vl_nu_tk hR, hv]
        by_cases c2 : e2 = e
        · have ve := hv e
          rw [vl_nu_lk ndT, hl, v0] at ve
          rw [if_pos c2, c2, if_pos rfl, v0]
          have : F e + 0 = 0 := ve.symm
          show y = F e + (0 + y)
          omega
        · rw [if_neg c2, if_neg (fun z => c2 z.symm)]
          omega
      · have := len_pt (T := T) (e := e) (x := (r, y))
        omega
    | some y1 =>
      refine ⟨true, rfl, ?_⟩
      rw [if_pos rfl]
      have hy1 := (hen _ (lkT_some hl)).2
      have ve := hv e
      rw [vl_nu_lk ndT, hl, v0] at ve
      have ve2 : y1.2 = F e + 0 := ve
      try dsimp only [List.set]
      walk_at "zz"
      refine z_dgm hT hq hl ?_
      try dsimp only [List.set]
      walk_at "zz"
      refine u_addF (B := B) hy1 hfr N0 (by rw [ve2, Int.add_zero]; exact bF e) (by rw [hy]; exact bG e) bN (by omega) (fun r2 H2 s2 f2 => ?_)
      try dsimp only [List.set]
      walk_at "zz"
      refine z_dpm (x := (r2, y1.2 + y)) (s2 _ _ hT) (s2 _ _ hq) (by omega) ?_
      refine ⟨_, _, ptT T e (r2, y1.2 + y), rfl, put_but (b.trans (But.of s2)), upd_same, nd_pt ndT, ((hen.mono s2).pt hsh f2).monoD (SameD.put (s2 _ _ hT)), fun e2 => ?_, ?_⟩
      · rw [vl_nu_pt ndT, vl_nu_tk hR, hv]
        by_cases c2 : e2 = e
        · rw [if_pos c2, c2, if_pos rfl, v0, ve2]
          show F e + 0 + y = F e + (0 + y)
          omega
        · rw [if_neg c2, if_neg (fun z => c2 z.symm)]
          omega
      · have := len_pt (T := T) (e := e) (x := (r2, y1.2 + y))
        omega
  · obtain ⟨o3, o4, T, rfl, b, hT, ndT, hen, hv, lT⟩ := q
    rw [hpl'.1] at hv lT
    rw [List.take_length] at hv
    have sH : Same H Hi := same_but hD fun a o ne e => b a o ne (s1 _ _ e)
    try dsimp only [List.set]
    walk_at "zz"
    refine z_fix hT (fun o => ?_)
    have sE : Same H (upd Hi D (.frz o (.dT (enT rf T)))) := Same.put sH hD
    have hF2 : Frz (upd Hi D (.frz o (.dT (enT rf T)))) D rf T := Frz.new
    have hen2 := hen.monoD (K := K) (H' := upd Hi D (.frz o (.dT (enT rf T)))) (fun a o2 e _ n2 => by
      rw [upd_ne]
      · exact e
      · intro z
        rw [z, hT] at e
        exact n2 _ (Option.some.inj e).symm)
    have hfm9 := hfm.mono sE
    generalize (upd Hi D (.frz o (.dT (enT rf T)))) = HE at *
    try dsimp only [List.set]
    walk_at "zz"
    refine u_made (F := fun e => F e + G e) (S := S + S') hF2 ndT hen2 N0 (by omega) (by omega) (fun e => ?_) (fun x H3 s3 f3 => ?_)
    · rw [hv, hs'.vl]
    try dsimp only [List.set]
    walk_at "zz"
    exact k x H3 (sE.trans s3) (Fo.of f3 N0 bN (fun e => (bF e).add (bG e)))
theorem c_FormD_addD (L : Lw K mg) : Met P w K mg base 8 (He.ga K "Form") "__add__" (sp2 (fs_oadd K)) [] := by
  obtain ⟨fd, F⟩ := L.d_FormD_addD
  exact ⟨⟨_, fd, ["self", "other"], [], L.cl_Form, L.me_FormD_addD, ok_FormD_addD L F, F.bindsN (fun _ _ _ _ _ _ us hl => match us, hl with | [_, _], _ => rfl), .nil⟩⟩
theorem ok_FormD_subD (L : Lw K mg) {fd : FuncData} (F : FunD K "__sub__" "Form.__sub__" (defArgs s_FormD_subD) (defBody s_FormD_subD) (defScope s_FormD_subD) (df_FormD_subD.dvs K) (df_FormD_subD.kws K) (He.fAd K ("Form", some "__sub__")) fd) : FnOk P w K mg base (L2N.CX P w) 9 (He.fAd K ("Form", some "__sub__")) fd (["self", "other"] : List Str) (sp2 (fs_osub K)) := by
  refine FunD.ok F sc_FormD_subD len2 (fun cdv A outer s H vs Q E hr h => ?_)
  obtain ⟨a, b, rfl, h⟩ := h
  refine ⟨_, (pss_one (ps_ret (pe_op (op_or2 o_cat (op_own (by rfl) L.sf_Form (c_FormD_addD (K := K) L) hr (by decide) passF)) (pv 0) (pe_un (un_or2 o_neg (un_own (c_FormD_negD (K := K) L) hr (by decide) passF)) (pv 1))))), ?_⟩
  rw [show L2.start (["self", "other"] : List Str) [a, b] = [some a, some b] from rfl]
  obtain ⟨f, g, n, F, G, N, B, S, S', rfl, rfl, hF, hG, hS, hB, k⟩ := h
  obtain ⟨p', xs', R', ⟨dx, hfm'⟩, _⟩ := id hG
  try dsimp only [List.set]
  walk_at "zz"
  refine .inr ⟨g, dx, _, rfl, hfm', _, rfl, g, n, G, N, B, S', rfl, hG, by omega, fun x H1 s1 f1 => ?_⟩
  obtain ⟨p, xs, R, ⟨dx1, hfm⟩, _⟩ := hF.mono s1
  obtain ⟨p2, xs2, R2, ⟨dx2, hfm2⟩, _⟩ := id f1
  try dsimp only [List.set]
  walk_at "zz"
  refine z_own2 hfm hfm2 ⟨_, _, rfl, f, x, n, F, _, N, B, S, S', rfl, rfl, hF.mono s1, f1, hS, hB, fun x2 H2 s2 f2 => ⟨⟨x2, rfl⟩, ?_⟩⟩
  try dsimp only [List.set]
  walk_at "zz"
  refine k x2 H2 (s1.trans s2) ?_
  exact f2
theorem c_FormD_subD (L : Lw K mg) : Met P w K mg base 9 (He.ga K "Form") "__sub__" (sp2 (fs_osub K)) [] := by
  obtain ⟨fd, F⟩ := L.d_FormD_subD
  exact ⟨⟨_, fd, ["self", "other"], [], L.cl_Form, L.me_FormD_subD, ok_FormD_subD L F, F.bindsN (fun _ _ _ _ _ _ us hl => match us, hl with | [_, _], _ => rfl), .nil⟩⟩
end
end T
set_option maxHeartbeats 4000000
namespace T
open PySem PySem.Spec PyProof.Rows L2 Z
open S15
theorem isr_inj {K : Frag} {H : Hp} {a : Addr} {t b t' b' : Int} (h : IsR K H a t b) (h' : IsR K H a t' b') : t = t' ∧ b = b' := by
  obtain ⟨dx, e⟩ := h
  obtain ⟨dy, e'⟩ := h'
  rw [e] at e'
  injection e' with e'
  injection e' with _ _ e2
  unfold rF at e2
  injection e2 with e3 e4
  injection e4 with e5 _
  injection e3 with _ e6
  injection e5 with _ e7
  injection e6 with e6
  injection e7 with e7
  exact ⟨e6, e7⟩
theorem dvd_bits {o N : Int} {B : Nat} (h0 : 0 < o) (hN : 0 < N) (d : o ∣ N) (b : Bits B N) : Bits B o := b.le (by have := Int.le_of_dvd hN d; omega)
/-- the whole numbers of a form's entries over o -/
def wt (R : List En) (o N : Int) : List (Ex × Int) := R.map fun p => (p.1, p.2.2 * o / N)
theorem wt_nd {R : List En} {o N : Int} (h : Nd R) : Nd (wt R o N) := by
  unfold Nd wt
  rw [List.map_map]
  exact h
theorem wt_vl {o N : Int} (hN : 0 < N) {e : Ex} : ∀ {R : List En}, (∀ p, p ∈ R → N ∣ p.2.2 * o) → vl (wt R o N) e * N = vl (nu R) e * o
  | [], _ => by
    show (0 : Int) * N = 0 * o
    rw [Int.zero_mul, Int.zero_mul]
  | p :: r, h => by
    have ih := wt_vl hN (e := e) (R := r) fun q m => h q (List.mem_cons_of_mem _ m)
    have d := Int.ediv_mul_cancel (h p List.mem_cons_self)
    show ((if p.1 = e then p.2.2 * o / N else 0) + vl (wt r o N) e) * N = ((if p.1 = e then p.2.2 else 0) + vl (nu r) e) * o
    rw [Int.add_mul, ih, Int.add_mul]
    by_cases c : p.1 = e
    · rw [if_pos c, if_pos c, d]
    · rw [if_neg c, if_neg c, Int.zero_mul, Int.zero_mul]
theorem wt_bits {o N : Int} {B : Nat} {p : En} (hN : 0 < N) (h0 : 0 < o) (d : o ∣ N) (hp : N ∣ p.2.2 * o) (b : Bits B p.2.2) : Bits B (p.2.2 * o / N) := by
  refine b.le ?_
  have e := Int.ediv_mul_cancel hp
  have l := Int.le_of_dvd hN d
  have e2 : (p.2.2 * o / N).natAbs * N.natAbs = p.2.2.natAbs * o.natAbs := by rw [← Int.natAbs_mul, e, Int.natAbs_mul]
  have l2 : p.2.2.natAbs * o.natAbs ≤ p.2.2.natAbs * N.natAbs := Nat.mul_le_mul_left _ (by omega)
  rw [← e2] at l2
  exact Nat.le_of_mul_le_mul_right l2 (by omega)
theorem getd_int {U : List (Ex × Int)} {e : Ex} (nd : Nd U) : (((lkT U e).map V.int).getD (V.int 0)) = V.int (vl U e) := by
  rw [vl_lk nd]
  cases lkT U e <;> rfl
theorem sw_bits {φ : Ex → Int} {B : Nat} (hφ : ∀ e, (φ e).natAbs ≤ B) {C : Nat} : ∀ {L : List (Ex × Int)}, (∀ p, p ∈ L → p.2.natAbs ≤ C) → (sw φ L).natAbs ≤ L.length * (C * B)
  | [], _ => by simp [sw]
  | p :: r, h => by
    have ih := sw_bits hφ (L := r) fun q m => h q (List.mem_cons_of_mem _ m)
    have h1 := h p List.mem_cons_self
    have h2 : (p.2 * φ p.1).natAbs ≤ C * B := by
      rw [Int.natAbs_mul]
      exact Nat.mul_le_mul h1 (hφ _)
    rw [sw, List.length_cons, Nat.succ_mul]
    omega
theorem cv_bits {L M : List (Ex × Int)} {B B' : Nat} (h1 : ∀ p, p ∈ L → Bits B p.2) (h2 : ∀ p, p ∈ M → Bits B' p.2) (k : Ex) : Bits (B + B' + L.length * M.length) (cv L M k) := by
  have s1 : ∀ e, (sw (fun f => if ad e f = k then 1 else 0) M).natAbs ≤ M.length * (2 ^ B' * 1) := fun e => sw_bits (fun f => by split <;> decide) fun p m => Nat.le_of_lt (h2 p m)
  have s2 := sw_bits s1 (L := L) (C := 2 ^ B) fun p m => Nat.le_of_lt (h1 p m)
  unfold Bits cv
  refine Nat.lt_of_le_of_lt s2 ?_
  have e : L.length * (2 ^ B * (M.length * (2 ^ B' * 1))) = (L.length * M.length) * 2 ^ (B + B') := by
    rw [Nat.pow_add, Nat.mul_one]
    grind
  rw [e, Nat.add_comm (B + B') (L.length * M.length), Nat.pow_add 2 (L.length * M.length) (B + B')]
  exact Nat.mul_lt_mul_of_pos_right Nat.lt_two_pow_self (Nat.two_pow_pos _)
def fs_wt (K : Frag) : F1 := fun a H Q _ => ∃ (p : Addr) (xs : List V) (n : Nat) (R : List En) (F : Ex → Int) (N : Int) (B S : Nat), a = .ref p ∧ H p = some (.tup xs) ∧ PrL K H xs R N ∧ Srt K H n R F N ∧ 0 < N ∧ Bits 600 N ∧ (∀ e, Bits B (F e)) ∧ B ≤ 90000 ∧ R.length ≤ S ∧ S ≤ 100000 ∧
  ∀ t d o H', Same H H' → H' t = some (.tup [.ref d, .int o]) → Frz H' d V.int (wt R o N) → 0 < o → o ∣ N → (∀ p, p ∈ R → N ∣ p.2.2 * o) → Q (.ref t) H'
def fs_tp (K : Frag) : F2 := fun a b H Q _ => ∃ (d1 d2 : Addr) (n B B' S : Nat) (T U : List (Ex × Int)), a = .ref d1 ∧ b = .ref d2 ∧ Frz H d1 V.int T ∧ Frz H d2 V.int U ∧ Ln n T ∧ Ln n U ∧ (∀ p, p ∈ T → Bits B p.2) ∧ (∀ p, p ∈ U → Bits B' p.2) ∧ B + B' ≤ 200000 ∧ T.length * U.length ≤ S ∧ S ≤ 100000 ∧ n ≤ 1000 ∧
  ∀ d W H', Same H H' → Frz H' d V.int W → Nd W → Ln n W → W.length ≤ S → (∀ e, vl W e = cv T U e) → Q (.ref d) H'
theorem u_tp {K : Frag} {H : Hp} {Q : VK} {E : XK} {d1 d2 : Addr} {n B B' S : Nat} {T U : List (Ex × Int)} (h1 : Frz H d1 V.int T) (h2 : Frz H d2 V.int U) (h3 : Ln n T) (h4 : Ln n U) (h5 : ∀ p, p ∈ T → Bits B p.2) (h6 : ∀ p, p ∈ U → Bits B' p.2) (h7 : B + B' ≤ 200000) (h8 : T.length * U.length ≤ S) (h9 : S ≤ 100000) (h10 : n ≤ 1000)
    (k : ∀ d W H', Same H H' → Frz H' d V.int W → Nd W → Ln n W → W.length ≤ S → (∀ e, vl W e = cv T U e) → Q (.ref d) H') : sp2 (fs_tp K) [.ref d1, .ref d2] H Q E := ⟨_, _, rfl, d1, d2, n, B, B', S, T, U, rfl, rfl, h1, h2, h3, h4, h5, h6, h7, h8, h9, h10, k⟩
def fs_fo (K : Frag) : F3 := fun a b c H Q _ => ∃ (n : Nat) (d : Addr) (o : Int) (U : List (Ex × Int)) (S : Nat) (F : Ex → Int), a = .int (n : Int) ∧ b = .ref d ∧ c = .int o ∧ Frz H d V.int U ∧ Nd U ∧ Ln n U ∧ 0 < o ∧ Bits 8999 o ∧ U.length ≤ S ∧ S ≤ 100000 ∧ (∀ e, vl U e = F e) ∧
  ∀ x H', Same H H' → FoN K H' x n F o S → Q (.ref x) H'
theorem u_fo {K : Frag} {H : Hp} {Q : VK} {E : XK} {n : Nat} {d : Addr} {o : Int} {U : List (Ex × Int)} {S : Nat} {F : Ex → Int} (h1 : Frz H d V.int U) (h2 : Nd U) (h3 : Ln n U) (h4 : 0 < o) (h5 : Bits 8999 o) (h6 : U.length ≤ S) (h7 : S ≤ 100000) (h8 : ∀ e, vl U e = F e)
    (k : ∀ x H', Same H H' → FoN K H' x n F o S → Q (.ref x) H') : sp3 (fs_fo K) [.int (n : Int), .ref d, .int o] H Q E := ⟨_, _, _, rfl, n, d, o, U, S, F, rfl, rfl, rfl, h1, h2, h3, h4, h5, h6, h7, h8, k⟩
def fs_omul (K : Frag) : F2 := fun a b H Q _ => ∃ (f g : Addr) (n : Nat) (F G C : Ex → Int) (N : Int) (B S S' : Nat) (L M : List (Ex × Int)), a = .ref f ∧ b = .ref g ∧ Fo K H f n F N B S ∧ Fo K H g n G N B S' ∧ (∀ e, vl L e = F e) ∧ (∀ e, vl M e = G e) ∧ (∀ e, C e = cv L M e) ∧ S * S' ≤ 90000 ∧ S ≤ 90000 ∧ S' ≤ 90000 ∧ B ≤ 50000 ∧ n ≤ 1000 ∧ Bits 600 (N * N) ∧
  ∀ x H', Same H H' → Fo K H' x n C (N * N) (B + B + S * S') (S * S') → Q (.ref x) H'
section
variable {K : Frag} {α : Type} {σ : L2.St} {H1 : Hp} {Q : VK} {tk' tv : TE} {g : TG} {vs : List Nat} {d : Addr} {U : List (Ex × Int)} {f : α → V}
theorem z_dcPW (h : Frz H1 d V.int U) (f : α → V) (P : Nat → Hp → List (Ex × α) → Prop) (m : ∀ i H H' T, SameD H H' → P i H T → P i H' T) (hl : ∀ i H T, P i H T → T.length ≤ i) (hn : U.length ≤ 16777216) (h0 : ∀ H, P 0 H [])
    (hs : ∀ k e y q t H T (N : V → VK), U[k]? = some (e, y) → H t = some (.tup [.ref q, .int y]) → H q = some (.tup (e.map V.int)) → Same H1 H → P k H T → (∀ e y q H4, Same H H4 → H4 q = some (.tup (e.map V.int)) → P (k + 1) H4 (ptT T e y) → N (.ref q) (f y) H4) →
      g (.ref t) (wipe σ vs) H fun σ2 H2 => wipe σ2 vs = wipe σ vs ∧ tk' σ2 H2 fun y H6 => tv σ2 H6 fun z H7 => N y z H7)
    (k : ∀ D H' T, H1 D = none → Same H1 H' → H' D = some (.dT (enT f T)) → P U.length H' T → Q (.ref D) H') : ∃ d' o kvs, V.ref d = .ref d' ∧ H1 d' = some (.frz o (.dT kvs)) ∧ zDc (ItP d' o kvs) g tYes tk' tv vs σ H1 Q := by
  obtain ⟨o, ho⟩ := h
  refine ⟨d, o, _, rfl, ho, z_dcW (f := f) Z.walk_pairsT P m hl hn h0 (fun H' s => s _ _ ho) (fun i x H H' T N hi s p y cN => ?_) k⟩
  obtain ⟨e, z, q, t, h1, rfl, h2, rfl, h3⟩ := y
  have s2 : Same H (upd H t (.tup [.ref q, .int z])) := Same.new h2
  exact hs i e z q t _ T N h1 upd_same (s2 _ _ h3) (s.trans s2) (m _ _ _ _ (SameD.of s2) p) fun e y q H4 s4 hq hp => cN e y q H4 (s2.trans s4) hq hp
end
theorem sw_tk {φ : Ex → Int} {U : List (Ex × Int)} {j : Nat} {p : Ex × Int} (h : U[j]? = some p) : sw φ (U.take (j + 1)) = sw φ (U.take j) + p.2 * φ p.1 := by
  rw [take_succ' h, sw_app]
  show _ + (p.2 * φ p.1 + 0) = _
  omega
theorem ad_map {e f : Ex} {n : Nat} (h1 : e.length = n) (h2 : f.length = n) : (List.range n).map (fun i => V.int (e.getD i 0 + f.getD i 0)) = (ad e f).map V.int := by
  refine List.ext_getElem (by simp [ad_len (show e.length = f.length by omega), h1]) (fun k k1 k2 => ?_)
  have l1 : k < e.length := by simpa [h1] using k1
  have l2 : k < f.length := by omega
  rw [List.getElem_map, List.getElem_range, List.getElem_map]
  simp only [S15.ad, List.getElem_zipWith]
  simp [List.getD_eq_getElem?_getD, l1, l2]
local macro_rules | `(tactic| walk_at "z") => `(tactic| with_reducible refine z_fldS ?_)
local macro_rules | `(tactic| walk_at "z") => `(tactic| ((with_reducible refine' z_fdt ?zc1 ?zc2 ?zl2 ?_); (case zc1 => exact Lw.cl_Ratio (by assumption)); (case zc2 => exact Lw.na_Ratio_top (by assumption)); (case zl2 => walk_at "up")))
local macro_rules | `(tactic| walk_at "z") => `(tactic| ((with_reducible refine' z_fdb ?zc1 ?zc2 ?zl2 ?_); (case zc1 => exact Lw.cl_Ratio (by assumption)); (case zc2 => exact Lw.na_Ratio_bottom (by assumption)); (case zl2 => walk_at "up")))
local macro_rules | `(tactic| walk_at "up") => `(tactic| first
  | assumption
  | (refine' IsR.mono (by assumption) ?zup; case zup => walk_at "up")
  | (refine' IsE.mono (by assumption) ?zup; case zup => walk_at "up")
  | (refine' Same.at (by assumption) ?zup; case zup => walk_at "up")
  | (refine' SqL.of ?zup; case zup => walk_at "up")
  | (refine' L2.Same.seq (by assumption) ?zup; case zup => walk_at "up"))
local macro_rules | `(tactic| walk_at "z") => `(tactic| first
  | ((with_reducible refine' z_var ?zvh ?_); (case zvh => exact rfl))
  | with_reducible refine z_c ?_
  | with_reducible refine z_cons ?_
  | with_reducible refine z_nil ?_
  | with_reducible refine z_op ?_
  | with_reducible refine z_nx ?_
  | with_reducible refine z_seq ?_
  | with_reducible refine z_asg ?_
  | with_reducible refine z_asgG ?_
  | with_reducible refine z_call ?_
  | with_reducible refine z_sq0 ?_
  | with_reducible refine z_sq1 ?_
  | with_reducible refine z_ifS ?_
  | with_reducible refine z_test ?_
  | with_reducible refine z_tb ?_
  | with_reducible refine z_bl ?_
  | with_reducible refine z_blI ?_
  | with_reducible refine z_ret ?_
  | with_reducible refine z_rt ?_
  | with_reducible refine z_T ?_
  | with_reducible refine z_F ?_
  | with_reducible refine z_add ?_
  | with_reducible refine z_sub ?_
  | with_reducible refine z_neg ?_
  | with_reducible refine z_un ?_
  | with_reducible refine z_eqI ?_
  | with_reducible refine z_neI ?_
  | with_reducible refine z_lt ?_
  | with_reducible refine z_le ?_
  | with_reducible refine z_gt ?_
  | with_reducible refine z_ge ?_
  | with_reducible refine z_not ?_
  | with_reducible refine z_and ?_
  | with_reducible refine z_or ?_
  | with_reducible refine z_andV ?_
  | with_reducible refine z_orV ?_
  | with_reducible refine z_notV ?_
  | with_reducible refine z_if ?_
  | with_reducible refine z_cb ?_
  | with_reducible refine z_int1 ?_
  | with_reducible refine z_intb ?_
  | with_reducible refine z_abs ?_
  | with_reducible refine z_gcd ?_
  | with_reducible refine z_isi_ii ?_
  | with_reducible refine z_isi_ib ?_
  | with_reducible refine z_next ?_
  | with_reducible refine z_drop ?_
  | with_reducible refine z_par ?_
  | with_reducible refine z_par2 ?_
  | with_reducible refine z_tupN ?_
  | with_reducible refine z_lstN ?_
  | ((with_reducible refine' z_nt ?zl1 ?_); (case zl1 => exact Nat.le_of_ble_eq_true rfl); intro p H' hp hs he)
  | ((with_reducible refine' z_gtup ?zl1 ?zl2 ?_); (case zl1 => walk_at "up"); (case zl2 => exact rfl))
  | with_reducible refine z_bk ?_
  | with_reducible refine z_ct ?_
  | with_reducible refine z_break ?_
  | with_reducible refine z_cont ?_
  | with_reducible refine z_retN ?_
  | with_reducible refine z_nn ?_
  | with_reducible refine z_mk ?_
  | with_reducible refine z_gn ?_
  | with_reducible refine z_gcons ?_
  | with_reducible refine z_gnil ?_
  | with_reducible refine z_mt ?_
  | with_reducible refine z_mko ?_
  | with_reducible refine z_for2 ?_
  | with_reducible refine z_ownI ?_
  | ((with_reducible refine' z_lenL ?zl1 ?_); (case zl1 => walk_at "up"))
  | ((with_reducible refine' z_ixT ?zl1 ?zl2 ?_); (case zl1 => walk_at "up"); (case zl2 => exact rfl))
  | ((with_reducible refine' z_mulL ?zl1 ?zl2 ?_); (case zl1 => omega); (case zl2 => omega))
  | ((with_reducible refine' z_mulR ?zl1 ?zl2 ?_); (case zl1 => omega); (case zl2 => omega))
  | ((with_reducible refine' z_divS ?zl1 ?zl2 ?_); (case zl1 => omega); (case zl2 => omega))
  | ((with_reducible refine' z_mulW ?zl1 ?zl2 ?zl3 ?zl4 ?_); (case zl1 => omega); (case zl2 => omega); (case zl3 => omega); (case zl4 => omega))
  | ((with_reducible refine' z_divW ?zl1 ?zl2 ?_); (case zl1 => omega); (case zl2 => omega)))
local macro_rules | `(tactic| walk_at "zz") => `(tactic| repeat (walk_at "z"))
local macro_rules | `(tactic| walk_at "z") => `(tactic| with_reducible refine z_lstN ?_)
local macro_rules | `(tactic| walk_at "z") => `(tactic| with_reducible refine z_p6 ?_)
local macro_rules | `(tactic| walk_at "z") => `(tactic| with_reducible refine z_p12 ?_)
local macro_rules | `(tactic| walk_at "z") => `(tactic| with_reducible refine z_p13 ?_)
local macro_rules | `(tactic| walk_at "z") => `(tactic| with_reducible refine z_calln ?_)
local macro_rules | `(tactic| walk_at "z") => `(tactic| with_reducible refine z_xfS ?_)
local macro_rules | `(tactic| walk_at "z") => `(tactic| with_reducible refine z_lcS ?_)
local macro_rules | `(tactic| walk_at "z") => `(tactic| with_reducible refine z_lcRS ?_)
local macro_rules | `(tactic| walk_at "z") => `(tactic| with_reducible refine z_lcZS ?_)
local macro_rules | `(tactic| walk_at "z") => `(tactic| with_reducible refine z_foS ?_)
local macro_rules | `(tactic| walk_at "z") => `(tactic| with_reducible refine z_for1 ?_)
local macro_rules | `(tactic| walk_at "z") => `(tactic| with_reducible refine z_tsl ?_)
local macro_rules | `(tactic| walk_at "z") => `(tactic| with_reducible refine z_np ?_)
local macro_rules | `(tactic| walk_at "z") => `(tactic| with_reducible refine z_pt ?_)
local macro_rules | `(tactic| walk_at "z") => `(tactic| with_reducible refine z_pti ?_)
local macro_rules | `(tactic| walk_at "z") => `(tactic| with_reducible refine z_catI ?_)
local macro_rules | `(tactic| walk_at "z") => `(tactic| with_reducible refine z_isNI ?_)
local macro_rules | `(tactic| walk_at "z") => `(tactic| with_reducible refine z_isNN ?_)
local macro_rules | `(tactic| walk_at "z") => `(tactic| with_reducible refine z_notNI ?_)
local macro_rules | `(tactic| walk_at "z") => `(tactic| with_reducible refine z_notNN ?_)
local macro_rules | `(tactic| walk_at "z") => `(tactic| with_reducible refine z_gsub ?_)
local macro_rules | `(tactic| walk_at "z") => `(tactic| with_reducible refine z_isNb ?_)
local macro_rules | `(tactic| walk_at "z") => `(tactic| with_reducible refine z_notNb ?_)
local macro_rules | `(tactic| walk_at "z") => `(tactic| ((with_reducible refine' z_nlR ?zl1 ?_); (case zl1 => exact Nat.le_of_ble_eq_true rfl); intro p H' hp hs he))
local macro_rules | `(tactic| walk_at "z") => `(tactic| ((with_reducible refine' z_repR ?zl1 ?zl2 ?_); (case zl1 => omega); (case zl2 => omega)))
local macro_rules | `(tactic| walk_at "z") => `(tactic| ((with_reducible refine' z_repL ?zl1 ?zl2 ?_); (case zl1 => omega); (case zl2 => omega)))
local macro_rules | `(tactic| walk_at "z") => `(tactic| ((with_reducible refine' z_lenLst ?zl1 ?_); (case zl1 => walk_at "up")))
local macro_rules | `(tactic| walk_at "z") => `(tactic| ((with_reducible refine' z_cat ?zl1 ?zl2 ?zl3 ?_); (case zl1 => walk_at "up"); (case zl2 => walk_at "up"); (case zl3 => (simp only [List.length_map, List.length_cons, List.length_nil, List.length_append, List.length_replicate]; omega)); intro p H' hp hs he))
local macro_rules | `(tactic| walk_at "z") => `(tactic| with_reducible refine z_sfl ?_)
local macro_rules | `(tactic| walk_at "z") => `(tactic| with_reducible refine z_lcES ?_)
local macro_rules | `(tactic| walk_at "z") => `(tactic| with_reducible refine z_lcMS ?_)
local macro_rules | `(tactic| walk_at "z") => `(tactic| with_reducible refine z_foES ?_)
local macro_rules | `(tactic| walk_at "z") => `(tactic| with_reducible refine z_fo3S ?_)
local macro_rules | `(tactic| walk_at "z") => `(tactic| with_reducible refine z_sta ?_)
local macro_rules | `(tactic| walk_at "z") => `(tactic| with_reducible refine z_sta1 ?_)
local macro_rules | `(tactic| walk_at "z") => `(tactic| with_reducible refine z_lcTS ?_)
local macro_rules | `(tactic| walk_at "z") => `(tactic| with_reducible refine z_foTS ?_)
local macro_rules | `(tactic| walk_at "z") => `(tactic| with_reducible refine z_revTS ?_)
local macro_rules | `(tactic| walk_at "z") => `(tactic| with_reducible refine z_max2 ?_)
local macro_rules | `(tactic| walk_at "z") => `(tactic| ((with_reducible refine' z_fldt ?zc1 ?zc2 ?zl1 ?zl2 ?_); (case zc1 => exact Lw.cl_Ratio (by assumption)); (case zc2 => exact Lw.na_Ratio_top (by assumption)); (case zl1 => exact rfl); (case zl2 => walk_at "up")))
local macro_rules | `(tactic| walk_at "z") => `(tactic| ((with_reducible refine' z_fldb ?zc1 ?zc2 ?zl1 ?zl2 ?_); (case zc1 => exact Lw.cl_Ratio (by assumption)); (case zc2 => exact Lw.na_Ratio_bottom (by assumption)); (case zl1 => exact rfl); (case zl2 => walk_at "up")))
local macro_rules | `(tactic| walk_at "z") => `(tactic| ((with_reducible refine' u_mtF ?zl1 ?_); (case zl1 => walk_at "up")))
local macro_rules | `(tactic| walk_at "z") => `(tactic| ((with_reducible refine' z_ixLst ?zl1 ?zl2 ?_); (case zl1 => walk_at "up"); (case zl2 => exact rfl)))
local macro_rules | `(tactic| walk_at "z") => `(tactic| with_reducible refine z_yes ?_)
local macro_rules | `(tactic| walk_at "z") => `(tactic| with_reducible refine z_if1 ?_)
local macro_rules | `(tactic| walk_at "z") => `(tactic| with_reducible refine z_dg ?_)
local macro_rules | `(tactic| walk_at "z") => `(tactic| with_reducible refine z_di ?_)
local macro_rules | `(tactic| walk_at "z") => `(tactic| with_reducible refine z_dp ?_)
local macro_rules | `(tactic| walk_at "z") => `(tactic| with_reducible refine z_foKS ?_)
local macro_rules | `(tactic| walk_at "z") => `(tactic| with_reducible refine z_foPS ?_)
local macro_rules | `(tactic| walk_at "z") => `(tactic| with_reducible refine z_foTS ?_)
local macro_rules | `(tactic| walk_at "z") => `(tactic| with_reducible refine z_lcKS ?_)
local macro_rules | `(tactic| walk_at "z") => `(tactic| with_reducible refine z_lcTS ?_)
local macro_rules | `(tactic| walk_at "z") => `(tactic| with_reducible refine z_dcTS ?_)
local macro_rules | `(tactic| walk_at "z") => `(tactic| with_reducible refine z_dcPS ?_)
local macro_rules | `(tactic| walk_at "z") => `(tactic| with_reducible refine z_fixV ?_)
local macro_rules | `(tactic| walk_at "z") => `(tactic| with_reducible refine z_mkk ?_)
local macro_rules | `(tactic| walk_at "z") => `(tactic| with_reducible refine z_sta ?_)
local macro_rules | `(tactic| walk_at "z") => `(tactic| with_reducible refine z_sta1 ?_)
local macro_rules | `(tactic| walk_at "z") => `(tactic| with_reducible refine z_ckw ?_)
local macro_rules | `(tactic| walk_at "z") => `(tactic| with_reducible refine z_cmpD ?_)
local macro_rules | `(tactic| walk_at "z") => `(tactic| with_reducible refine z_pk1 ?_)
local macro_rules | `(tactic| walk_at "z") => `(tactic| with_reducible refine z_tBD ?_)
local macro_rules | `(tactic| walk_at "z") => `(tactic| ((with_reducible refine' z_fl ?zc1 ?zc2 ?zl1 ?zl2 ?_); (case zc1 => exact Lw.cl_Form (by assumption)); (case zc2 => exact Lw.na_Form_letters (by assumption)); (case zl1 => exact rfl); (case zl2 => walk_at "up")))
local macro_rules | `(tactic| walk_at "z") => `(tactic| ((with_reducible refine' z_ft ?zc1 ?zc2 ?zl1 ?zl2 ?_); (case zc1 => exact Lw.cl_Form (by assumption)); (case zc2 => exact Lw.na_Form_terms (by assumption)); (case zl1 => exact rfl); (case zl2 => walk_at "up")))
local macro_rules | `(tactic| walk_at "z") => `(tactic| ((with_reducible refine' z_fd ?zc1 ?zc2 ?zl1 ?zl2 ?_); (case zc1 => exact Lw.cl_Form (by assumption)); (case zc2 => exact Lw.na_Form_degree (by assumption)); (case zl1 => exact rfl); (case zl2 => walk_at "up")))
theorem sameFD {H H1 H2 : Hp} (h : Same H1 H2) (e : Same H H1) : Same H H2 := e.trans h
local macro_rules | `(tactic| walk_at "sm") => `(tactic| first
  | assumption
  | exact fun _ _ h => h
  | (refine' sameFD (by assumption) ?zsm; case zsm => walk_at "sm"))
local macro_rules | `(tactic| walk_at "up") => `(tactic| first
  | assumption
  | (with_reducible refine' IsR.mono (by assumption) ?zup; case zup => walk_at "up")
  | (with_reducible refine' Fr.mono (by assumption) ?zup; case zup => walk_at "up")
  | (with_reducible refine' IsFm.mono (by assumption) ?zup; case zup => walk_at "up")
  | (with_reducible refine' Frz.mono (by assumption) ?zup; case zup => walk_at "up")
  | (with_reducible refine' Fo.mono (by assumption) ?zup; case zup => walk_at "up")
  | (with_reducible refine' La.mono (by assumption) ?zup; case zup => walk_at "up")
  | (with_reducible refine' Ta.mono (by assumption) ?zup; case zup => walk_at "up")
  | (with_reducible refine' PrL.mono (by assumption) ?zup; case zup => walk_at "up")
  | (with_reducible refine' EnA.mono (by assumption) ?zup; case zup => walk_at "up")
  | (with_reducible refine' Srt.mono (by assumption) ?zup; case zup => walk_at "up")
  | (with_reducible refine' Same.at (by assumption) ?zup; case zup => walk_at "up")
  | fail)
section
variable {P : Program} {w : World} {K : Frag} {mg : Str → Option Value} {base : Heap}
theorem ok_whole_terms (L : Lw K mg) {fd : FuncData} (F : FunD K "whole_terms" "whole_terms" (defArgs s_whole_terms) (defBody s_whole_terms) (defScope s_whole_terms) (df_whole_terms.dvs K) (df_whole_terms.kws K) (He.fAd K ("whole_terms", none)) fd) : FnOk P w K mg base (L2N.CX P w) 1 (He.fAd K ("whole_terms", none)) fd (["terms"] : List Str) (sp1 (fs_wt K)) := by
  refine FunD.ok F sc_whole_terms len1 (fun cdv A outer s H vs Q E hr h => ?_)
  obtain ⟨a, rfl, h⟩ := h
  refine ⟨_, (pss_cons (ps_set (i := 1) sc_whole_terms.nd rfl (by first | exact Or.inl rfl | exact Or.inr rfl) pe_int)
    (pss_cons (ps_for (passes_of rfl) rfl (pi_tupK (K := K) rfl (pv 0)) (pg_tup (by rfl) (pgs_cons (pg_name (i := 2) sc_whole_terms.nd rfl (by first | exact Or.inl rfl | exact Or.inr rfl)) (pgs_cons (pg_name (i := 3) sc_whole_terms.nd rfl (by first | exact Or.inl rfl | exact Or.inr rfl)) pgs_nil))) (pss_one (ps_set (i := 1) sc_whole_terms.nd rfl (by first | exact Or.inl rfl | exact Or.inr rfl) (pe_callBfun cr_lcm rfl L.v_lcm (pa_cons (pv 1) (pa_cons (pe_fld (pv 3) rfl) pa_nil))))))
    (pss_one (ps_ret (pe_tup (pa_cons (pe_fixV (pe_dcT (own := [("exponents", 4), ("ratio", 3)]) (g := (gTup K 2 (gCons (gName 4) (gCons (gName 3) gNil)))) (tt := tYes) rfl hr sc_whole_terms.nd (pi_tupK (K := K) rfl (pv 0)) (blkOk_by (N := ["terms", "over", "_", "ratio", "exponents"]) (sc := defScope s_whole_terms) (by decide +kernel)) (fun _ _ _ _ _ => pgK (fun K => gTup K 2 (gCons (gName 4) (gCons (gName 3) gNil))) (K := K) rfl (pg_tup rfl (pgs_cons (pg_name (i := 4) sc_whole_terms.nd rfl (Or.inl rfl)) (pgs_cons (pg_name (i := 3) sc_whole_terms.nd rfl (Or.inl rfl)) pgs_nil)))) (fun _ _ _ _ _ => pts_nil) (fun _ _ _ _ _ => (pv 4)) (fun _ _ _ _ _ => (pe_op o_rep (pe_fldK (K := K) rfl (pv 3) rfl) (pe_op o_div (pv 1) (pe_fldK (K := K) rfl (pv 3) rfl)))))) (pa_cons (pv 1) pa_nil))))))), ?_⟩
  rw [show L2.start (["terms", "over", "_", "ratio", "exponents"] : List Str) [a] = [some a, none, none, none, none] from rfl]
  obtain ⟨p, xs, n, R, F, N, B, S, rfl, hp, hpl, hs, N0, bN, bF, hB, lR, hS, k⟩ := h
  try dsimp only [List.set]
  walk_at "zz"
  refine z_foT hp (fun i σ Hi => ∃ o o2 o3 o4, σ = [some (.ref p), some (.int o), o2, o3, o4] ∧ Same H Hi ∧ 0 < o ∧ o ∣ N ∧ ∀ q, q ∈ R.take i → ∀ t b, IsR K H q.2.1 t b → b ∣ o) ⟨1, _, _, _, rfl, (fun _ _ h => h), by decide, ⟨N, by omega⟩, fun q m => nomatch m⟩ (fun i σ Hi q => ?_) (fun i x σ Hi hx q => ?_) (fun σ Hi q => ?_)
  · obtain ⟨_, _, _, _, _, s, _⟩ := q
    exact s _ _ hp
  · obtain ⟨o, o2, o3, o4, rfl, s, o0, dv, hd⟩ := q
    obtain ⟨⟨e, r, y⟩, hR, t, q, rfl, ht, hq, hfr⟩ := (hpl.mono s).at hx
    dsimp only at ht hq hfr
    obtain ⟨t1, b1, hr1, b0, g1, e1⟩ := id hfr
    obtain ⟨_, _, db⟩ := fr_le b0 g1 N0 e1
    try dsimp only [List.set]
    walk_at "zz"
    refine z_lcm (dvd_bits o0 N0 dv bN) (dvd_bits b0 N0 db bN) (by decide) (by decide) ?_
    try dsimp only [List.set]
    walk_at "zz"
    obtain ⟨f1, f2, f3, f4⟩ := lcm_facts o0 b0
    refine ⟨_, _, _, _, rfl, s, f1, lcm_dvd dv db, fun q2 m2 t2 b2 h2 => ?_⟩
    rw [take_succ' hR] at m2
    rcases List.mem_append.mp m2 with m2 | m2
    · exact Int.dvd_trans (hd q2 m2 t2 b2 h2) f2
    · rw [List.mem_singleton.mp m2] at h2
      rw [(isr_inj (h2.mono s) hr1).2]
      exact f3
  obtain ⟨o, o2, o3, o4, rfl, s, o0, dv, hd⟩ := q
  rw [hpl.1, List.take_length] at hd
  have val : ∀ q, q ∈ R → ∀ t b, IsR K H q.2.1 t b → t * (o / b) * N = q.2.2 * o := fun q m t b h2 => by
    obtain ⟨t1, b1, hr1, b0, g1, e1⟩ := (hs.en q m).2
    obtain ⟨rfl, rfl⟩ := isr_inj h2 hr1
    have c := Int.mul_ediv_cancel' (hd q m _ _ hr1)
    have : t * (o / b) * N = t * N * (o / b) := by grind
    rw [this, e1]
    have : q.2.2 * b * (o / b) = q.2.2 * (b * (o / b)) := by grind
    rw [this, c]
  have dvN : ∀ q, q ∈ R → N ∣ q.2.2 * o := fun q m => by
    obtain ⟨t1, b1, hr1, _⟩ := (hs.en q m).2
    exact ⟨t1 * (o / b1), by rw [← val q m _ _ hr1]; grind⟩
  try dsimp only [List.set]
  walk_at "zz"
  refine z_dcTW (s _ _ hp) V.int (fun i H T => T = (wt R o N).take i) (fun i H H' T s p => p) (fun i H T p => by rw [p, List.length_take]; omega) (by rw [hpl.1]; omega) (fun H => rfl) (fun i x H1 T Nx hi s1 pT cN => ?_) (fun D H1 T hD s1 h1 pT => ?_)
  · obtain ⟨⟨e, r, y⟩, hR, t, q, rfl, ht, hq, hfr⟩ := (hpl.mono (s.trans s1)).at hi
    have mR := List.mem_of_getElem? hR
    dsimp only at ht hq hfr
    obtain ⟨t1, b1, hr1, b0, g1, e1⟩ := (hs.en _ mR).2
    have hr2 := hr1.mono (s.trans s1)
    obtain ⟨_, _, db⟩ := fr_le b0 g1 N0 e1
    have hy := hs.tel _ mR
    have v1 := val _ mR _ _ hr1
    have d1 := hd _ mR _ _ hr1
    dsimp only at hr2 hy v1 d1
    have bt : Bits B t1 := (fr_bits b0 g1 N0 e1 (by rw [hy]; exact bF e) bN).1
    have ho : 0 < o / b1 := Int.ediv_pos_of_pos_of_dvd o0 (by omega) d1
    have bo : Bits 600 (o / b1) := (dvd_bits o0 N0 dv bN).le (by
      have := Int.ediv_le_self b1 (Int.le_of_lt o0)
      omega)
    try dsimp only [List.set]
    walk_at "zz"
    refine ⟨rfl, ?_⟩
    try dsimp only [List.set]
    walk_at "zz"
    refine z_div (b := 601) b0 ((dvd_bits b0 N0 db bN).up (by decide)) (by decide) (by decide) ?_
    try dsimp only [List.set]
    walk_at "zz"
    refine z_repU0 bt bo (by omega) ?_
    have ev : t1 * (o / b1) = y * o / N := by
      rw [← v1, Int.mul_ediv_cancel _ (by omega)]
    rw [ev]
    refine cN e _ q _ (fun _ _ h => h) hq ?_
    have hw : (wt R o N)[i]? = some (e, y * o / N) := by
      unfold wt
      rw [List.getElem?_map, hR]
      rfl
    rw [pT, pt_new (nd_take (wt_nd hs.nd) hw), ← take_succ' hw]
  have lw : xs.length = (wt R o N).length := by
    unfold wt
    rw [List.length_map]
    exact hpl.1
  rw [lw, List.take_length] at pT
  rw [pT] at h1
  refine ⟨D, _, rfl, h1, True.intro, fun oo => ?_⟩
  have sE : Same H (upd H1 D (.frz oo (.dT (enT V.int (wt R o N))))) := Same.put (Same.trans s s1) (Same.none s hD)
  have hW : Frz (upd H1 D (.frz oo (.dT (enT V.int (wt R o N))))) D V.int (wt R o N) := Frz.new
  generalize (upd H1 D (.frz oo (.dT (enT V.int (wt R o N))))) = HE at *
  try dsimp only [List.set]
  walk_at "zz"
  rename_i t H2 ht s2 et
  exact k t D o H2 (sE.trans s2) et (hW.mono s2) o0 dv dvN
theorem c_whole_terms (L : Lw K mg) : Cal P w K mg base 1 "whole_terms" (sp1 (fs_wt K)) [] := by
  obtain ⟨fd, F⟩ := L.d_whole_terms
  exact ⟨⟨_, fd, ["terms"], [], ok_whole_terms L F, L.g_whole_terms, F.kp, F.bindsN (fun _ _ _ _ _ _ us hl => match us, hl with | [_], _ => rfl), .nil⟩⟩
theorem ok_table_product (L : Lw K mg) {fd : FuncData} (F : FunD K "table_product" "table_product" (defArgs s_table_product) (defBody s_table_product) (defScope s_table_product) (df_table_product.dvs K) (df_table_product.kws K) (He.fAd K ("table_product", none)) fd) : FnOk P w K mg base (L2N.CX P w) 1 (He.fAd K ("table_product", none)) fd (["first", "second"] : List Str) (sp2 (fs_tp K)) := by
  refine FunD.ok F sc_table_product len2 (fun cdv A outer s H vs Q E hr h => ?_)
  obtain ⟨a, b, rfl, h⟩ := h
  refine ⟨_, (pss_cons (ps_set (i := 2) sc_table_product.nd rfl (by first | exact Or.inl rfl | exact Or.inr rfl) pe_dnewT)
    (pss_cons (ps_for (passes_of rfl) rfl (pi_pairs (pv 0)) (pg_tup (by rfl) (pgs_cons (pg_name (i := 3) sc_table_product.nd rfl (by first | exact Or.inl rfl | exact Or.inr rfl)) (pgs_cons (pg_name (i := 4) sc_table_product.nd rfl (by first | exact Or.inl rfl | exact Or.inr rfl)) pgs_nil))) (pss_one (ps_for (passes_of rfl) rfl (pi_pairs (pv 1)) (pg_tup (by rfl) (pgs_cons (pg_name (i := 5) sc_table_product.nd rfl (by first | exact Or.inl rfl | exact Or.inr rfl)) (pgs_cons (pg_name (i := 6) sc_table_product.nd rfl (by first | exact Or.inl rfl | exact Or.inr rfl)) pgs_nil))) (pss_cons (ps_set (i := 7) sc_table_product.nd rfl (by first | exact Or.inl rfl | exact Or.inr rfl) (pe_callTy (callK rTup1 (K := K) rfl call_tuple_of) (by rfl) L.f_tuple (by decide +kernel) (pa_cons (pe_lc (own := [("a", 8), ("b", 9)]) (g := (gTup K 2 (gCons (gName 8) (gCons (gName 9) gNil)))) (tt := tYes) rfl sc_table_product.nd (piK (fun K => iZipM K _) (K := K) rfl (pi_zipM (by rfl) L.f_zip (pa_cons (pv 3) (pa_cons (pv 5) pa_nil)))) (blkOk_by (N := ["first", "second", "table", "left", "number", "right", "other", "exponents", "a", "b"]) (sc := defScope s_table_product) (by decide +kernel)) (fun _ _ _ _ _ => pgK (fun K => gTup K 2 (gCons (gName 8) (gCons (gName 9) gNil))) (K := K) rfl (pg_tup rfl (pgs_cons (pg_name (i := 8) sc_table_product.nd rfl (Or.inl rfl)) (pgs_cons (pg_name (i := 9) sc_table_product.nd rfl (Or.inl rfl)) pgs_nil)))) (fun _ _ _ _ _ => pts_nil) (fun _ _ _ _ _ => (pe_op o_cat (pv 8) (pv 9)))) pa_nil)))
    (pss_one (ps_dput (hu1 hr) (pv 2) (pv 7) (pe_op o_cat (pe_dget2 (hu1 hr) (pv 2) (pv 7) pe_int ⟨by rfl, by rfl, by rfl, by rfl⟩) (pe_op o_rep (pv 4) (pv 6))) (by rfl)))))))
    (pss_one (ps_fix (ps_ret (pv 2)))))), ?_⟩
  rw [show L2.start (["first", "second", "table", "left", "number", "right", "other", "exponents", "a", "b"] : List Str) [a, b] = [some a, some b, none, none, none, none, none, none, none, none] from rfl]
  obtain ⟨d1, d2, n, B, B', S, T, U, rfl, rfl, hT, hU, lT, lU, bT, bU, hB, hS, hS2, hn, k⟩ := h
  try dsimp only [List.set]
  walk_at "zz"
  refine z_dnew (f := V.int) fun d hd => ?_
  have s1 : Same H (upd H d (.dT (enT V.int []))) := Same.new hd
  have e1 : (upd H d (.dT (enT V.int []))) d = some (.dT (enT V.int [])) := upd_same
  generalize (upd H d (.dT (enT V.int []))) = H1 at *
  have n1 : d1 ≠ d := fun z => by
    obtain ⟨o, e⟩ := hT
    rw [z, hd] at e
    cases e
  have n2 : d2 ≠ d := fun z => by
    obtain ⟨o, e⟩ := hU
    rw [z, hd] at e
    cases e
  try dsimp only [List.set]
  walk_at "zz"
  refine z_foP (fun i σ Hi => ∃ o3 o4 o5 o6 o7 o8 o9 W, σ = [some (V.ref d1), some (V.ref d2), some (V.ref d), o3, o4, o5, o6, o7, o8, o9] ∧ But d H1 Hi ∧ Hi d = some (.dT (enT V.int W)) ∧ Nd W ∧ Ln n W ∧ W.length ≤ i * U.length ∧ ∀ e, vl W e = cv (T.take i) U e) (hT.mono s1) ⟨_, _, _, _, _, _, _, [], rfl, (fun _ _ _ e => e), e1, nd_nil, (fun p m => nomatch m), by simp, fun e => rfl⟩ (fun o ho i σ Hi q => ?_) (fun i e y q t σ Hi hi hq ht I => ?_) (fun σ Hi I => ?_)
  · obtain ⟨_, _, _, _, _, _, _, W, _, b, _⟩ := q
    exact b _ _ n1 ho
  · obtain ⟨o3, o4, o5, o6, o7, o8, o9, W, rfl, b, hW, ndW, lW, cW, vW⟩ := I
    have mT := List.mem_of_getElem? hi
    have he := lT _ mT
    have by_ := bT _ mT
    dsimp only at he by_
    have iT : i < T.length := (List.getElem?_eq_some_iff.mp hi).1
    have sA : Same Hi (upd Hi t (.tup [.ref q, .int y])) := Same.new ht
    have hA : (upd Hi t (.tup [.ref q, .int y])) t = some (.tup [.ref q, .int y]) := upd_same
    generalize (upd Hi t (.tup [.ref q, .int y])) = HA at *
    have hqA := sA _ _ hq
    have nq : q ≠ d := fun z => by
      rw [z, hW] at hq
      cases hq
    have hUA : Frz HA d2 V.int U := by
      obtain ⟨o, e⟩ := hU.mono s1
      exact ⟨o, sA _ _ (b _ _ n2 e)⟩
    try dsimp only [List.set]
    walk_at "zz"
    refine z_foP (fun j σ Hj => ∃ o5 o6 o7 o8 o9 W, σ = [some (V.ref d1), some (V.ref d2), some (V.ref d), some (V.ref q), some (V.int y), o5, o6, o7, o8, o9] ∧ But d HA Hj ∧ Hj d = some (.dT (enT V.int W)) ∧ Nd W ∧ Ln n W ∧ W.length ≤ i * U.length + j ∧ ∀ k, vl W k = cv (T.take i) U k + y * sw (fun f => if ad e f = k then 1 else 0) (U.take j)) hUA ⟨_, _, _, _, _, W, rfl, (fun _ _ _ e => e), sA _ _ hW, ndW, lW, cW, fun k => ?_⟩ (fun o ho j σ Hj q => ?_) (fun j g y2 q2 t2 σ Hj hj hq2 ht2 I => ?_) (fun σ Hj I => ?_)
    · rw [vW k]
      show _ = _ + y * 0
      omega
    · obtain ⟨_, _, _, _, _, W2, _, b2, _⟩ := q
      exact b2 _ _ n2 ho
    · obtain ⟨o5, o6, o7, o8, o9, W2, rfl, b2, hW2, ndW2, lW2, cW2, vW2⟩ := I
      have mU := List.mem_of_getElem? hj
      have hg := lU _ mU
      have bg := bU _ mU
      dsimp only at hg bg
      have jU : j < U.length := (List.getElem?_eq_some_iff.mp hj).1
      have sB : Same Hj (upd Hj t2 (.tup [.ref q2, .int y2])) := Same.new ht2
      have hB2 : (upd Hj t2 (.tup [.ref q2, .int y2])) t2 = some (.tup [.ref q2, .int y2]) := upd_same
      generalize (upd Hj t2 (.tup [.ref q2, .int y2])) = HB at *
      have hqB := sB _ _ (b2 _ _ nq hqA)
      have hq2B := sB _ _ hq2
      have hW2B := sB _ _ hW2
      try dsimp only [List.set]
      walk_at "zz"
      refine z_lcM (k1 := true) (k2 := true) (n := n) (us := e.map V.int) (ys := g.map V.int) (fun i => V.int (e.getD i 0 + g.getD i 0)) (fun H' s => SqK.T (s _ _ hqB)) (fun H' s => SqK.T (s _ _ hq2B)) (by rw [List.length_map, List.length_map, he.1, hg.1, Nat.min_self]) (by omega) (fun k x z H4 N hx hz s4 cc => ⟨rfl, ?_⟩) (fun D H4 hD s4 h4 => ?_)
      · have lk : k < n := by
          have := (List.getElem?_eq_some_iff.mp hx).1
          rw [List.length_map, he.1] at this
          exact this
        have ex : x = .int (e.getD k 0) := by
          rw [List.getElem?_map] at hx
          rw [List.getD_eq_getElem?_getD]
          cases h9 : e[k]? with
          | none =>
            rw [h9] at hx
            cases hx
          | some u =>
            rw [h9] at hx
            exact (Option.some.inj hx).symm
        have ez : z = .int (g.getD k 0) := by
          rw [List.getElem?_map] at hz
          rw [List.getD_eq_getElem?_getD]
          cases h9 : g[k]? with
          | none =>
            rw [h9] at hz
            cases hz
          | some u =>
            rw [h9] at hz
            exact (Option.some.inj hz).symm
        rw [ex, ez]
        try dsimp only [List.set]
        walk_at "zz"
        exact cc _ (fun _ _ h => h)
      · rw [ad_map he.1 hg.1] at h4
        try dsimp only [List.set]
        walk_at "zz"
        refine z_tup1L h4 (fun pt H5 hpt s5 h5 => ?_)
        try dsimp only [List.set]
        walk_at "zz"
        have hW5 := s5 _ _ (s4 _ _ hW2B)
        refine z_dg2 rfl (isd_m hW5) ?_
        try dsimp only [List.set]
        walk_at "zz"
        refine z_dg3 hW5 h5 ?_
        rw [getd_int ndW2]
        try dsimp only [List.set]
        walk_at "zz"
        refine z_repU0 by_ bg (by omega) ?_
        try dsimp only [List.set]
        walk_at "zz"
        have ls : i * U.length + j < 16777216 := by
          have h1 : i * U.length ≤ T.length * U.length := Nat.mul_le_mul_right _ (by omega)
          have h2 : (i + 1) * U.length ≤ T.length * U.length := Nat.mul_le_mul_right _ (by omega)
          rw [Nat.succ_mul] at h2
          omega
        refine z_dpm (x := vl W2 (S15.ad e g) + y * y2) hW5 h5 (by omega) ?_
        refine ⟨_, _, _, _, _, ptT W2 (S15.ad e g) (vl W2 (S15.ad e g) + y * y2), rfl, put_but ((b2.trans (But.of sB)).trans (But.of (s4.trans s5))), upd_same, nd_pt ndW2, fun p m => ?_, ?_, fun k => ?_⟩
        · rcases mem_pt m with z | ⟨z, _⟩
          · rw [z]
            exact he.ad hg
          · exact lW2 p z
        · have := len_pt (T := W2) (e := S15.ad e g) (x := vl W2 (S15.ad e g) + y * y2)
          omega
        · rw [vl_pt ndW2, sw_tk hj]
          by_cases c : k = S15.ad e g
          · rw [if_pos c, vW2, c]
            simp only [if_pos rfl]
            rw [if_pos trivial]
            grind
          · rw [if_neg c, vW2]
            simp only
            rw [if_neg (fun z => c z.symm)]
            simp
    · obtain ⟨o5, o6, o7, o8, o9, W2, rfl, b2, hW2, ndW2, lW2, cW2, vW2⟩ := I
      refine ⟨_, _, _, _, _, _, _, W2, rfl, (b.trans (But.of sA)).trans b2, hW2, ndW2, lW2, by rw [Nat.succ_mul]; omega, fun k => ?_⟩
      rw [vW2, List.take_length]
      unfold cv
      rw [sw_tk hi]
  · obtain ⟨o3, o4, o5, o6, o7, o8, o9, W, rfl, b, hW, ndW, lW, cW, vW⟩ := I
    rw [List.take_length] at vW
    refine z_fix hW (fun o => ?_)
    have sE : Same H (upd Hi d (.frz o (.dT (enT V.int W)))) := Same.put (same_but hd fun a o ne e => b a o ne (s1 _ _ e)) hd
    try dsimp only [List.set]
    walk_at "zz"
    exact k d W _ sE Frz.new ndW lW (by omega) vW
theorem c_table_product (L : Lw K mg) : Cal P w K mg base 1 "table_product" (sp2 (fs_tp K)) [] := by
  obtain ⟨fd, F⟩ := L.d_table_product
  exact ⟨⟨_, fd, ["first", "second"], [], ok_table_product L F, L.g_table_product, F.kp, F.bindsN (fun _ _ _ _ _ _ us hl => match us, hl with | [_, _], _ => rfl), .nil⟩⟩
theorem ok_form_over (L : Lw K mg) {fd : FuncData} (F : FunD K "form_over" "form_over" (defArgs s_form_over) (defBody s_form_over) (defScope s_form_over) (df_form_over.dvs K) (df_form_over.kws K) (He.fAd K ("form_over", none)) fd) : FnOk P w K mg base (L2N.CX P w) 8 (He.fAd K ("form_over", none)) fd (["letters", "table", "over"] : List Str) (sp3 (fs_fo K)) := by
  refine FunD.ok F sc_form_over len3 (fun cdv A outer s H vs Q E hr h => ?_)
  obtain ⟨a, b, c, rfl, h⟩ := h
  refine ⟨_, (pss_one (ps_ret (pe_sm (c_Form_made (K := K) L) hr (by decide) (L2N.takes_of rfl rfl rfl rfl) (pe_cls L.g_Form) (pa_cons (pv 0) (pa_cons (pe_fixV (pe_dcT (own := [("exponents", 3), ("number", 4)]) (g := (gTup K 2 (gCons (gName 3) (gCons (gName 4) gNil)))) (tt := tYes) rfl hr sc_form_over.nd (pi_pairs (pv 1)) (blkOk_by (N := ["letters", "table", "over", "exponents", "number"]) (sc := defScope s_form_over) (by decide +kernel)) (fun _ _ _ _ _ => pgK (fun K => gTup K 2 (gCons (gName 3) (gCons (gName 4) gNil))) (K := K) rfl (pg_tup rfl (pgs_cons (pg_name (i := 3) sc_form_over.nd rfl (Or.inl rfl)) (pgs_cons (pg_name (i := 4) sc_form_over.nd rfl (Or.inl rfl)) pgs_nil)))) (fun _ _ _ _ _ => pts_nil) (fun _ _ _ _ _ => (pv 3)) (fun _ _ _ _ _ => (pe_mk (c_RatioD_initD (K := K) L) hr (by decide) takesF (pa_cons (pv 4) (pa_cons (pv 2) pa_nil)))))) pa_nil))))), ?_⟩
  rw [show L2.start (["letters", "table", "over", "exponents", "number"] : List Str) [a, b, c] = [some a, some b, some c, none, none] from rfl]
  obtain ⟨n, d, o, U, S, F, rfl, rfl, rfl, hU, nd, lU, o0, bo, hS, hS2, hf, k⟩ := h
  try dsimp only [List.set]
  walk_at "zz"
  refine z_dcPW hU rf (fun i H T => T.map (fun p => (p.1, p.2.2)) = U.take i ∧ EnA K H n T o) (fun i H H' T s p => ⟨p.1, p.2.monoD s⟩) (fun i H T p => ?_) (by omega) (fun H => ⟨rfl, fun p m => nomatch m⟩) (fun i e y q t H1 T Nx hi ht hq s1 pT cN => ?_) (fun D H1 T hD s1 h1 pT => ?_)
  · have := congrArg List.length p.1
    rw [List.length_map, List.length_take] at this
    omega
  · obtain ⟨p1, p2⟩ := pT
    have he := lU _ (List.mem_of_getElem? hi)
    dsimp only at he
    try dsimp only [List.set]
    walk_at "zz"
    refine ⟨rfl, ?_⟩
    try dsimp only [List.set]
    walk_at "zz"
    refine u_mkF o0 bo rfl (fun r H2 s2 f2 => ?_)
    have no : lkT T e = none := by
      refine lkT_none.mpr fun p m ee => ?_
      have m2 : (p.1, p.2.2) ∈ U.take i := by
        rw [← p1]
        exact List.mem_map.mpr ⟨p, m, rfl⟩
      exact lkT_none.mp (nd_take nd hi) _ m2 ee
    refine cN e (r, y) q H2 s2 (s2 _ _ hq) ⟨?_, (p2.mono s2).pt he f2⟩
    rw [pt_new no, List.map_append, p1, take_succ' hi]
    rfl
  obtain ⟨p1, p2⟩ := pT
  rw [List.take_length] at p1
  refine ⟨D, _, rfl, h1, True.intro, fun oo => ?_⟩
  have sE : Same H (upd H1 D (.frz oo (.dT (enT rf T)))) := Same.put s1 hD
  have hT : Frz (upd H1 D (.frz oo (.dT (enT rf T)))) D rf T := Frz.new
  have p3 := p2.monoD (K := K) (H' := upd H1 D (.frz oo (.dT (enT rf T)))) (fun a o2 e _ n2 => by
    rw [upd_ne]
    · exact e
    · intro z
      rw [z, h1] at e
      exact n2 _ (Option.some.inj e).symm)
  generalize (upd H1 D (.frz oo (.dT (enT rf T)))) = HE at *
  have enu : nu T = U := p1
  try dsimp only [List.set]
  walk_at "zz"
  refine u_made (F := F) (S := S) hT (by rw [← enu] at nd; unfold Nd nu at nd; rw [List.map_map] at nd; exact nd) p3 o0 (by rw [← enu] at hS; unfold nu at hS; rw [List.length_map] at hS; exact hS) hS2 (fun e => by rw [enu]; exact hf e) (fun x H3 s3 f3 => ?_)
  try dsimp only [List.set]
  walk_at "zz"
  exact k x H3 (sE.trans s3) f3
theorem c_form_over (L : Lw K mg) : Cal P w K mg base 8 "form_over" (sp3 (fs_fo K)) [] := by
  obtain ⟨fd, F⟩ := L.d_form_over
  exact ⟨⟨_, fd, ["letters", "table", "over"], [], ok_form_over L F, L.g_form_over, F.kp, F.bindsN (fun _ _ _ _ _ _ us hl => match us, hl with | [_, _, _], _ => rfl), .nil⟩⟩
theorem ok_FormD_mulD (L : Lw K mg) {fd : FuncData} (F : FunD K "__mul__" "Form.__mul__" (defArgs s_FormD_mulD) (defBody s_FormD_mulD) (defScope s_FormD_mulD) (df_FormD_mulD.dvs K) (df_FormD_mulD.kws K) (He.fAd K ("Form", some "__mul__")) fd) : FnOk P w K mg base (L2N.CX P w) 9 (He.fAd K ("Form", some "__mul__")) fd (["self", "other"] : List Str) (sp2 (fs_omul K)) := by
  refine FunD.ok F sc_FormD_mulD len2 (fun cdv A outer s H vs Q E hr h => ?_)
  obtain ⟨a, b, rfl, h⟩ := h
  refine ⟨_, (pss_cons (ps_if (pt_cmpR op_ne (pe_fld (pv 1) rfl) (pe_fld (pv 0) rfl) (nomark _)) (pss_one ps_never) pss_nil)
    (pss_cons (ps_asg (pe_c (c_whole_terms (K := K) L) hr (by decide) (L2N.takes_of rfl rfl rfl rfl) (pa_cons (pe_fld (pv 0) rfl) pa_nil)) (pg_tup (by rfl) (pgs_cons (pg_name (i := 2) sc_FormD_mulD.nd rfl (by first | exact Or.inl rfl | exact Or.inr rfl)) (pgs_cons (pg_name (i := 3) sc_FormD_mulD.nd rfl (by first | exact Or.inl rfl | exact Or.inr rfl)) pgs_nil))))
    (pss_cons (ps_asg (pe_c (c_whole_terms (K := K) L) hr (by decide) (L2N.takes_of rfl rfl rfl rfl) (pa_cons (pe_fld (pv 1) rfl) pa_nil)) (pg_tup (by rfl) (pgs_cons (pg_name (i := 4) sc_FormD_mulD.nd rfl (by first | exact Or.inl rfl | exact Or.inr rfl)) (pgs_cons (pg_name (i := 5) sc_FormD_mulD.nd rfl (by first | exact Or.inl rfl | exact Or.inr rfl)) pgs_nil))))
    (pss_one (ps_ret (pe_c (c_form_over (K := K) L) hr (by decide) (L2N.takes_of rfl rfl rfl rfl) (pa_cons (pe_fld (pv 0) rfl) (pa_cons (pe_c (c_table_product (K := K) L) hr (by decide) (L2N.takes_of rfl rfl rfl rfl) (pa_cons (pv 2) (pa_cons (pv 4) pa_nil))) (pa_cons (pe_op o_rep (pv 3) (pv 5)) pa_nil))))))))), ?_⟩
  rw [show L2.start (["self", "other", "first", "over", "second", "base"] : List Str) [a, b] = [some a, some b, none, none, none, none] from rfl]
  obtain ⟨f, g, n, F, G, C, N, B, S, S', L0, M0, rfl, rfl, hF, hG, hL, hM, hC, hSS, hS, hS', hB, hn, bNN, k⟩ := h
  obtain ⟨p, xs, R, hfm, hp, hpl, hs, N0, bN, bF, lR⟩ := id hF
  obtain ⟨p', xs', R', hfm', hp', hpl', hs', N0', bN', bG, lR'⟩ := id hG
  try dsimp only [List.set]
  walk_at "zz"
  refine z_d2 (fun c => ?_) (fun c => absurd rfl c)
  try dsimp only [List.set]
  walk_at "zz"
  refine ⟨_, rfl, p, xs, n, R, F, N, B, S, rfl, hp, hpl, hs, N0, bN, bF, by omega, lR, by omega, fun t d o H1 s1 ht hW o0 dv hd => ?_⟩
  have hfm1 := hfm'.mono s1
  try dsimp only [List.set]
  walk_at "zz"
  refine ⟨_, rfl, p', xs', n, R', G, N, B, S', rfl, s1 _ _ hp', hpl'.mono s1, hs'.mono s1, N0, bN, bG, by omega, lR', by omega, fun t' d' o' H2 s2 ht' hW' o0' dv' hd' => ?_⟩
  have hfm2 := hfm.mono (s1.trans s2)
  try dsimp only [List.set]
  walk_at "zz"
  have bw : ∀ q, q ∈ wt R o N → Bits B q.2 := fun q m => by
    obtain ⟨q0, m0, rfl⟩ := List.mem_map.mp m
    exact wt_bits N0 o0 dv (hd q0 m0) (by rw [hs.tel q0 m0]; exact bF _)
  have bw' : ∀ q, q ∈ wt R' o' N → Bits B q.2 := fun q m => by
    obtain ⟨q0, m0, rfl⟩ := List.mem_map.mp m
    exact wt_bits N0 o0' dv' (hd' q0 m0) (by rw [hs'.tel q0 m0]; exact bG _)
  have lw : Ln n (wt R o N) := fun q m => by
    obtain ⟨q0, m0, rfl⟩ := List.mem_map.mp m
    exact (hs.en q0 m0).1
  have lw' : Ln n (wt R' o' N) := fun q m => by
    obtain ⟨q0, m0, rfl⟩ := List.mem_map.mp m
    exact (hs'.en q0 m0).1
  have ll : (wt R o N).length * (wt R' o' N).length ≤ S * S' := by
    unfold wt
    rw [List.length_map, List.length_map]
    exact Nat.mul_le_mul lR lR'
  refine u_tp (hW.mono s2) hW' lw lw' bw bw' (by omega) ll (by omega) hn (fun d3 W H3 s3 h3 nd3 ln3 ll3 v3 => ?_)
  try dsimp only [List.set]
  walk_at "zz"
  refine z_repU0 (dvd_bits o0 N0 dv bN) (dvd_bits o0' N0 dv' bN) (by decide) ?_
  try dsimp only [List.set]
  walk_at "zz"
  have boo : Bits 1200 (o * o') := (dvd_bits o0 N0 dv bN).mul (dvd_bits o0' N0 dv' bN)
  refine u_fo h3 nd3 ln3 (Int.mul_pos o0 o0') (boo.up (by decide)) ll3 (by omega) v3 (fun x H4 s4 f4 => ?_)
  try dsimp only [List.set]
  walk_at "zz"
  have e1 : ∀ e, vl (scl N (wt R o N)) e = vl (scl o L0) e := fun e => by
    rw [vl_scl, vl_scl, hL, Int.mul_comm, wt_vl N0 hd, hs.vl, Int.mul_comm]
  have e2 : ∀ e, vl (scl N (wt R' o' N)) e = vl (scl o' M0) e := fun e => by
    rw [vl_scl, vl_scl, hM, Int.mul_comm, wt_vl N0 hd', hs'.vl, Int.mul_comm]
  have e3 : ∀ e, cv (wt R o N) (wt R' o' N) e * (N * N) = C e * (o * o') := fun e => by
    have := cv_ext (k := e) e1 e2
    rw [cv_scl, cv_scl] at this
    rw [hC, Int.mul_comm, this, Int.mul_comm]
  have bC : ∀ e, Bits (B + B + S * S') (C e) := fun e => by
    have h1 : ∀ k, vl L0 k = vl (nu R) k := fun k => by rw [hL, hs.vl]
    have h2 : ∀ k, vl M0 k = vl (nu R') k := fun k => by rw [hM, hs'.vl]
    rw [hC, cv_ext h1 h2]
    refine (cv_bits (B := B) (B' := B) (fun q m => ?_) (fun q m => ?_) e).up ?_
    · obtain ⟨q0, m0, rfl⟩ := List.mem_map.mp m
      show Bits B q0.2.2
      rw [hs.tel q0 m0]
      exact bF _
    · obtain ⟨q0, m0, rfl⟩ := List.mem_map.mp m
      show Bits B q0.2.2
      rw [hs'.tel q0 m0]
      exact bG _
    · have : (nu R).length * (nu R').length ≤ S * S' := by
        unfold nu
        rw [List.length_map, List.length_map]
        exact Nat.mul_le_mul lR lR'
      omega
  have dd : o * o' ∣ N * N := Int.mul_dvd_mul dv dv'
  have f5 : Fo K H4 x n (fun e => cv (wt R o N) (wt R' o' N) e) (o * o') (B + B + S * S') (S * S') := Fo.of f4 (Int.mul_pos o0 o0') (dvd_bits (Int.mul_pos o0 o0') (Int.mul_pos N0 N0) dd bNN) (fun e => (cv_bits bw bw' e).up (by omega))
  exact k x H4 (((s1.trans s2).trans s3).trans s4) (f5.cast (Int.mul_pos N0 N0) bNN e3 bC)
theorem c_FormD_mulD (L : Lw K mg) : Met P w K mg base 9 (He.ga K "Form") "__mul__" (sp2 (fs_omul K)) [] := by
  obtain ⟨fd, F⟩ := L.d_FormD_mulD
  exact ⟨⟨_, fd, ["self", "other"], [], L.cl_Form, L.me_FormD_mulD, ok_FormD_mulD L F, F.bindsN (fun _ _ _ _ _ _ us hl => match us, hl with | [_, _], _ => rfl), .nil⟩⟩
end
end T
set_option maxHeartbeats 4000000
namespace T
open PySem PySem.Spec PyProof.Rows L2 Z
open S15
theorem gcd_fmod (u v : Int) : Int.gcd v (u.fmod v) = Int.gcd u v := by
  rw [Int.fmod_def, Int.gcd_comm v]
  have : u - v * u.fdiv v = u + v * (-(u.fdiv v)) := by rw [Int.mul_neg]; omega
  rw [this, Int.gcd_add_mul_left_left]
theorem fmod_lt {u v : Int} (h : v ≠ 0) : (u.fmod v).natAbs < v.natAbs := by
  rw [Int.fmod_eq_emod]
  have a := Int.emod_nonneg u h
  have b : u % v < v.natAbs := by
    have := Int.emod_lt_of_pos u (show 0 < ((v.natAbs : Nat) : Int) by omega)
    rcases Int.lt_or_gt_of_ne h with c | c
    · rw [show ((v.natAbs : Nat) : Int) = -v by omega, Int.emod_neg] at this
      omega
    · rw [show ((v.natAbs : Nat) : Int) = v by omega] at this
      omega
  have c : v ∣ u ↔ u % v = 0 := Int.dvd_iff_emod_eq_zero
  split
  · omega
  · rename_i q
    have : ¬ u % v = 0 := fun z => q (.inr (c.mpr z))
    omega
def fs_gcd : F2 := fun a b H Q _ => ∃ i j : Int, a = .int i ∧ b = .int j ∧ Q (.int (Int.gcd i j : Nat)) H
theorem u_gcd {H : Hp} {Q : VK} {E : XK} {i j : Int} (q : Q (.int (Int.gcd i j : Nat)) H) : sp2 fs_gcd [.int i, .int j] H Q E := ⟨_, _, rfl, i, j, rfl, rfl, q⟩
def fs_who : F1 := fun a H Q _ => ∃ i : Int, a = .int i ∧ Q (.bl true) H
theorem u_who {H : Hp} {Q : VK} {E : XK} {i : Int} (q : Q (.bl true) H) : sp1 fs_who [.int i] H Q E := ⟨_, rfl, i, rfl, q⟩
/-- digits -/
def Dgs (ds : List Int) : Prop := ∀ d, d ∈ ds → 0 ≤ d ∧ d ≤ 9
def fs_draw : F3 := fun a b c H Q _ => ∃ (p : Addr) (k : Int) (m : Nat), a = .ref p ∧ b = .int k ∧ c = .int (m : Int) ∧ IsPool H p ∧ 0 ≤ k ∧ m ≤ 1000 ∧ ∀ D H' ds, Same H H' → H' D = some (.lst (ds.map V.int)) → ds.length = m → Dgs ds → Q (.ref D) H'
theorem u_draw {H : Hp} {Q : VK} {E : XK} {p : Addr} {k : Int} {m : Nat} (h : IsPool H p) (h0 : 0 ≤ k) (hm : m ≤ 1000) (q : ∀ D H' ds, Same H H' → H' D = some (.lst (ds.map V.int)) → ds.length = m → Dgs ds → Q (.ref D) H') : sp3 fs_draw [.ref p, .int k, .int (m : Int)] H Q E := ⟨_, _, _, rfl, p, k, m, rfl, rfl, rfl, h, h0, hm, q⟩
theorem low_uniq {t b t' b' : Int} (h : 0 < b) (h' : 0 < b') (g : Int.gcd t b = 1) (g' : Int.gcd t' b' = 1) (e : t * b' = t' * b) : t = t' ∧ b = b' := by
  have k : ∀ t b t' b' : Int, 0 < b → 0 < b' → Int.gcd t b = 1 → t * b' = t' * b → b ∣ b' := by
    intro t b t' b' h h' g e
    have d : b.natAbs ∣ t.natAbs * b'.natAbs := by
      rw [← Int.natAbs_mul, e, Int.natAbs_mul]
      exact Nat.dvd_mul_left _ _
    exact Int.natAbs_dvd_natAbs.mp (Nat.Coprime.dvd_of_dvd_mul_left (by
      have : Nat.gcd t.natAbs b.natAbs = 1 := g
      rw [Nat.Coprime, Nat.gcd_comm]
      exact this) d)
  have e2 : b = b' := Int.le_antisymm (Int.le_of_dvd h' (k t b t' b' h h' g e)) (Int.le_of_dvd h (k t' b' t b h' h g' e.symm))
  subst e2
  exact ⟨Int.eq_of_mul_eq_mul_right (by omega) e, rfl⟩
/-- a Ratio in lowest terms by the gcd -/
theorem low_gcd {t b x y N F : Int} (b0 : 0 < b) (g : Int.gcd t b = 1) (hN : 0 < N) (hy : 0 < y) (e : t * N = F * b) (h : F * y = x * N) : t = x / (Int.gcd x y : Nat) ∧ b = y / (Int.gcd x y : Nat) := by
  have e1 : t * y = x * b := by
    refine Int.eq_of_mul_eq_mul_right (show N ≠ 0 by omega) ?_
    have a1 : t * y * N = (t * N) * y := by grind
    have a2 : x * b * N = (x * N) * b := by grind
    rw [a1, a2, e, ← h]
    grind
  have gy : (0 : Int) < (Int.gcd x y : Nat) := by
    have : Int.gcd x y ≠ 0 := fun z => by
      have := (Int.gcd_eq_zero_iff.mp z).2
      omega
    omega
  obtain ⟨p, hp⟩ := Int.gcd_dvd_left x y
  obtain ⟨q, hq⟩ := Int.gcd_dvd_right x y
  have q0 : 0 < q := by
    refine Int.not_le.mp fun z => ?_
    have := Int.mul_nonpos_of_nonneg_of_nonpos (Int.le_of_lt gy) z
    omega
  have gpq : Int.gcd p q = 1 := by
    have h1 : Int.gcd x y = Int.gcd x y * Int.gcd p q := by
      have h2 : Int.gcd x y = Int.gcd (((Int.gcd x y : Nat) : Int) * p) (((Int.gcd x y : Nat) : Int) * q) := by rw [← hp, ← hq]
      rw [Int.gcd_mul_left, Int.natAbs_natCast] at h2
      exact h2
    have g0 : 0 < Int.gcd x y := by omega
    exact Nat.eq_of_mul_eq_mul_left g0 (by omega)
  have e2 : t * q = p * b := by
    refine Int.eq_of_mul_eq_mul_right (show ((Int.gcd x y : Nat) : Int) ≠ 0 by omega) ?_
    have a1 : t * q * ((Int.gcd x y : Nat) : Int) = t * (((Int.gcd x y : Nat) : Int) * q) := by grind
    have a2 : p * b * ((Int.gcd x y : Nat) : Int) = (((Int.gcd x y : Nat) : Int) * p) * b := by grind
    rw [a1, a2, ← hp, ← hq, e1]
  obtain ⟨et, eb⟩ := low_uniq b0 q0 g gpq e2
  rw [et, eb]
  generalize ((Int.gcd x y : Nat) : Int) = G at *
  constructor
  · rw [hp, Int.mul_ediv_cancel_left _ (by omega)]
  · rw [hq, Int.mul_ediv_cancel_left _ (by omega)]
end T
set_option maxHeartbeats 4000000
namespace T
open PySem PySem.Spec PyProof.Rows L2 Z
open S15
def KyL (H : Hp) (xs : List V) (l : List Ex) : Prop := xs.length = l.length ∧ ∀ (k : Nat) x e, xs[k]? = some x → l[k]? = some e → ∃ q, x = .ref q ∧ H q = some (.tup (e.map V.int))
theorem KyL.monoN {H H' : Hp} {xs : List V} {l : List Ex} (s : SameN H H') (h : KyL H xs l) : KyL H' xs l := ⟨h.1, fun k x e h1 h2 => by
  obtain ⟨q, e1, e2⟩ := h.2 k x e h1 h2
  exact ⟨q, e1, s _ _ e2 (fun _ z => nomatch z)⟩⟩
theorem KyL.mono {H H' : Hp} {xs : List V} {l : List Ex} (s : Same H H') (h : KyL H xs l) : KyL H' xs l := h.monoN (SameN.of s)
theorem KyL.at {H : Hp} {xs : List V} {l : List Ex} {k : Nat} {e : Ex} (h : KyL H xs l) (he : l[k]? = some e) : ∃ q, xs[k]? = some (V.ref q) ∧ H q = some (.tup (e.map V.int)) := by
  have lk : k < xs.length := by
    rw [h.1]
    exact (List.getElem?_eq_some_iff.mp he).1
  obtain ⟨q, e1, e2⟩ := h.2 k _ e (List.getElem?_eq_getElem lk) he
  exact ⟨q, by rw [List.getElem?_eq_getElem lk, e1], e2⟩
theorem KyL.snoc {H : Hp} {xs : List V} {l : List Ex} {q : Addr} {e : Ex} (h : KyL H xs l) (hq : H q = some (.tup (e.map V.int))) : KyL H (xs ++ [.ref q]) (l ++ [e]) := by
  refine ⟨by simp [h.1], fun k y f h1 h2 => ?_⟩
  by_cases c : k < xs.length
  · rw [List.getElem?_append_left c] at h1
    rw [List.getElem?_append_left (by rw [← h.1]; exact c)] at h2
    exact h.2 k y f h1 h2
  · rw [List.getElem?_append_right (by omega)] at h1
    rw [List.getElem?_append_right (by rw [← h.1]; omega), ← h.1] at h2
    by_cases d : k - xs.length = 0
    · rw [d] at h1 h2
      cases Option.some.inj h1
      cases Option.some.inj h2
      exact ⟨q, rfl, hq⟩
    · rw [List.getElem?_eq_none (by simp; omega)] at h1
      cases h1
theorem z_isTup {K : Frag} {a : Addr} {xs : List V} {H : Hp} {Q : VK} (h : H a = some (.tup xs)) (q : Q (.bl true) H) : rIsi K [.ref a, .ty "tuple"] H Q := z_isi (.ty "tuple") (.base (.tup h)) (kit_ty (by decide +kernel)) q
theorem z_isFm {K : Frag} {f p : Addr} {n : Nat} {d : Int} {C2 : Addr} {c : Bool} {H : Hp} {Q : VK} (I : InsK K (He.ga K "Form")) (hk : PySem.W.kitOne K (.ref (He.ga K "Form")) (.ref C2) = some c) (h : IsFm K H f n p d) (q : Q (.bl c) H) : rIsi K [.ref f, .ref C2] H Q := by
  obtain ⟨dx, e⟩ := h
  exact z_isi (.own _) (I.ty e) hk q
def fs_ino : F1 := fun a H Q _ => ∃ (t : Addr) (n : Nat) (c : Int) (F : Ex → Int) (N : Int) (B S : Nat), a = .ref t ∧ La H t n c F N B S ∧ S ≤ 100000 ∧ ∀ D H' xs l, Same H H' → H' D = some (.lst xs) → KyL H' xs l → Cn n F l → l.length ≤ S → Q (.ref D) H'
theorem u_ino {H : Hp} {Q : VK} {E : XK} {t : Addr} {n : Nat} {c : Int} {F : Ex → Int} {N : Int} {B S : Nat} (h : La H t n c F N B S) (hS : S ≤ 100000) (k : ∀ D H' xs l, Same H H' → H' D = some (.lst xs) → KyL H' xs l → Cn n F l → l.length ≤ S → Q (.ref D) H') : sp1 fs_ino [.ref t] H Q E := ⟨_, rfl, t, n, c, F, N, B, S, rfl, h, hS, k⟩
def fs_deg : F1 := fun a H Q _ => ∃ (t : Addr) (n : Nat) (c : Int) (F : Ex → Int) (N : Int) (B S : Nat), a = .ref t ∧ La H t n c F N B S ∧ S ≤ 100000 ∧ ∀ d H', Same H H' → Dg F d → Q (.int d) H'
theorem u_deg {H : Hp} {Q : VK} {E : XK} {t : Addr} {n : Nat} {c : Int} {F : Ex → Int} {N : Int} {B S : Nat} (h : La H t n c F N B S) (hS : S ≤ 100000) (k : ∀ d H', Same H H' → Dg F d → Q (.int d) H') : sp1 fs_deg [.ref t] H Q E := ⟨_, rfl, t, n, c, F, N, B, S, rfl, h, hS, k⟩
def fs_irow : F2 := fun a b H Q _ => ∃ (p q : Addr) (e : Ex), a = .ref p ∧ b = .ref q ∧ H p = some (.tup (e.map V.int)) ∧ H q = some (.tup (e.map V.int)) ∧ e.length ≤ 1000 ∧ ∀ H', Same H H' → Q (.bl true) H'
def fs_irat (K : Frag) : F3 := fun a b c H Q _ => ∃ (p : Addr) (F N x y : Int), a = .ref p ∧ b = .int x ∧ c = .int y ∧ Fr K H p F N ∧ 0 < N ∧ 0 < y ∧ y ≤ 1000000 ∧ F * y = x * N ∧ Q (.bl true) H
theorem max_dgl {n : Nat} {F : Ex → Int} {l : List Ex} {m : Int} (h : Cn n F l) (h1 : m ∈ (-1 : Int) :: l.map (·.sum)) (h2 : ∀ y, y ∈ (-1 : Int) :: l.map (·.sum) → y ≤ m) : m = dgl l := by
  cases l with
  | nil => exact List.mem_singleton.mp h1
  | cons e r =>
    show m = e.sum
    have a1 : e.sum ≤ m := h2 _ (by simp)
    have a2 : 0 ≤ e.sum := sum_nn (h.sh e List.mem_cons_self).2
    rcases List.mem_cons.mp h1 with z | z
    · omega
    · obtain ⟨f, mf, ef⟩ := List.mem_map.mp z
      rcases h.dg with ⟨q, _⟩ | ⟨_, le, _⟩
      · have : e.sum = -1 := q
        omega
      · have : f.sum ≤ e.sum := le f ((h.mem f).mp mf)
        omega
theorem la_nz {T : List (Ex × Int)} {F : Ex → Int} {N o : Int} (h3 : 0 < o) (h5 : 0 < N) (h7 : ∀ e, vl T e * N = F e * o) (e : Ex) : vl T e ≠ 0 ↔ F e ≠ 0 := ne0_of h3 h5 h7 e
theorem all_true {n : Nat} : (List.range n).map (fun _ => V.bl true) = (List.replicate n true).map V.bl := by
  rw [List.map_replicate]
  refine List.ext_getElem (by simp) (fun k h1 h2 => by simp)
theorem sums_list {l : List Ex} : (List.range l.length).map (fun k => V.int ((l.getD k []).sum)) = (l.map (·.sum)).map V.int := by
  refine List.ext_getElem (by simp) (fun k h1 h2 => ?_)
  have lk : k < l.length := by simpa using h1
  simp [List.getD_eq_getElem?_getD, lk]
local macro_rules | `(tactic| walk_at "z") => `(tactic| with_reducible refine z_fldS ?_)
local macro_rules | `(tactic| walk_at "z") => `(tactic| ((with_reducible refine' z_fdt ?zc1 ?zc2 ?zl2 ?_); (case zc1 => exact Lw.cl_Ratio (by assumption)); (case zc2 => exact Lw.na_Ratio_top (by assumption)); (case zl2 => walk_at "up")))
local macro_rules | `(tactic| walk_at "z") => `(tactic| ((with_reducible refine' z_fdb ?zc1 ?zc2 ?zl2 ?_); (case zc1 => exact Lw.cl_Ratio (by assumption)); (case zc2 => exact Lw.na_Ratio_bottom (by assumption)); (case zl2 => walk_at "up")))
local macro_rules | `(tactic| walk_at "up") => `(tactic| first
  | assumption
  | (refine' IsR.mono (by assumption) ?zup; case zup => walk_at "up")
  | (refine' IsE.mono (by assumption) ?zup; case zup => walk_at "up")
  | (refine' Same.at (by assumption) ?zup; case zup => walk_at "up")
  | (refine' SqL.of ?zup; case zup => walk_at "up")
  | (refine' L2.Same.seq (by assumption) ?zup; case zup => walk_at "up"))
local macro_rules | `(tactic| walk_at "z") => `(tactic| first
  | ((with_reducible refine' z_var ?zvh ?_); (case zvh => exact rfl))
  | with_reducible refine z_c ?_
  | with_reducible refine z_cons ?_
  | with_reducible refine z_nil ?_
  | with_reducible refine z_op ?_
  | with_reducible refine z_nx ?_
  | with_reducible refine z_seq ?_
  | with_reducible refine z_asg ?_
  | with_reducible refine z_asgG ?_
  | with_reducible refine z_call ?_
  | with_reducible refine z_sq0 ?_
  | with_reducible refine z_sq1 ?_
  | with_reducible refine z_ifS ?_
  | with_reducible refine z_test ?_
  | with_reducible refine z_tb ?_
  | with_reducible refine z_bl ?_
  | with_reducible refine z_blI ?_
  | with_reducible refine z_ret ?_
  | with_reducible refine z_rt ?_
  | with_reducible refine z_T ?_
  | with_reducible refine z_F ?_
  | with_reducible refine z_add ?_
  | with_reducible refine z_sub ?_
  | with_reducible refine z_neg ?_
  | with_reducible refine z_un ?_
  | with_reducible refine z_eqI ?_
  | with_reducible refine z_neI ?_
  | with_reducible refine z_lt ?_
  | with_reducible refine z_le ?_
  | with_reducible refine z_gt ?_
  | with_reducible refine z_ge ?_
  | with_reducible refine z_not ?_
  | with_reducible refine z_and ?_
  | with_reducible refine z_or ?_
  | with_reducible refine z_andV ?_
  | with_reducible refine z_orV ?_
  | with_reducible refine z_notV ?_
  | with_reducible refine z_if ?_
  | with_reducible refine z_cb ?_
  | with_reducible refine z_int1 ?_
  | with_reducible refine z_intb ?_
  | with_reducible refine z_abs ?_
  | with_reducible refine z_gcd ?_
  | with_reducible refine z_isi_ii ?_
  | with_reducible refine z_isi_ib ?_
  | with_reducible refine z_next ?_
  | with_reducible refine z_drop ?_
  | with_reducible refine z_par ?_
  | with_reducible refine z_par2 ?_
  | with_reducible refine z_tupN ?_
  | with_reducible refine z_lstN ?_
  | ((with_reducible refine' z_nt ?zl1 ?_); (case zl1 => exact Nat.le_of_ble_eq_true rfl); intro p H' hp hs he)
  | ((with_reducible refine' z_gtup ?zl1 ?zl2 ?_); (case zl1 => walk_at "up"); (case zl2 => exact rfl))
  | with_reducible refine z_bk ?_
  | with_reducible refine z_ct ?_
  | with_reducible refine z_break ?_
  | with_reducible refine z_cont ?_
  | with_reducible refine z_retN ?_
  | with_reducible refine z_nn ?_
  | with_reducible refine z_mk ?_
  | with_reducible refine z_gn ?_
  | with_reducible refine z_gcons ?_
  | with_reducible refine z_gnil ?_
  | with_reducible refine z_mt ?_
  | with_reducible refine z_mko ?_
  | with_reducible refine z_for2 ?_
  | with_reducible refine z_ownI ?_
  | ((with_reducible refine' z_lenL ?zl1 ?_); (case zl1 => walk_at "up"))
  | ((with_reducible refine' z_ixT ?zl1 ?zl2 ?_); (case zl1 => walk_at "up"); (case zl2 => exact rfl))
  | ((with_reducible refine' z_mulL ?zl1 ?zl2 ?_); (case zl1 => omega); (case zl2 => omega))
  | ((with_reducible refine' z_mulR ?zl1 ?zl2 ?_); (case zl1 => omega); (case zl2 => omega))
  | ((with_reducible refine' z_divS ?zl1 ?zl2 ?_); (case zl1 => omega); (case zl2 => omega))
  | ((with_reducible refine' z_mulW ?zl1 ?zl2 ?zl3 ?zl4 ?_); (case zl1 => omega); (case zl2 => omega); (case zl3 => omega); (case zl4 => omega))
  | ((with_reducible refine' z_divW ?zl1 ?zl2 ?_); (case zl1 => omega); (case zl2 => omega)))
local macro_rules | `(tactic| walk_at "zz") => `(tactic| repeat (walk_at "z"))
local macro_rules | `(tactic| walk_at "z") => `(tactic| with_reducible refine z_lstN ?_)
local macro_rules | `(tactic| walk_at "z") => `(tactic| with_reducible refine z_p6 ?_)
local macro_rules | `(tactic| walk_at "z") => `(tactic| with_reducible refine z_p12 ?_)
local macro_rules | `(tactic| walk_at "z") => `(tactic| with_reducible refine z_p13 ?_)
local macro_rules | `(tactic| walk_at "z") => `(tactic| with_reducible refine z_calln ?_)
local macro_rules | `(tactic| walk_at "z") => `(tactic| with_reducible refine z_xfS ?_)
local macro_rules | `(tactic| walk_at "z") => `(tactic| with_reducible refine z_lcS ?_)
local macro_rules | `(tactic| walk_at "z") => `(tactic| with_reducible refine z_lcRS ?_)
local macro_rules | `(tactic| walk_at "z") => `(tactic| with_reducible refine z_lcZS ?_)
local macro_rules | `(tactic| walk_at "z") => `(tactic| with_reducible refine z_foS ?_)
local macro_rules | `(tactic| walk_at "z") => `(tactic| with_reducible refine z_for1 ?_)
local macro_rules | `(tactic| walk_at "z") => `(tactic| with_reducible refine z_tsl ?_)
local macro_rules | `(tactic| walk_at "z") => `(tactic| with_reducible refine z_np ?_)
local macro_rules | `(tactic| walk_at "z") => `(tactic| with_reducible refine z_pt ?_)
local macro_rules | `(tactic| walk_at "z") => `(tactic| with_reducible refine z_pti ?_)
local macro_rules | `(tactic| walk_at "z") => `(tactic| with_reducible refine z_catI ?_)
local macro_rules | `(tactic| walk_at "z") => `(tactic| with_reducible refine z_isNI ?_)
local macro_rules | `(tactic| walk_at "z") => `(tactic| with_reducible refine z_isNN ?_)
local macro_rules | `(tactic| walk_at "z") => `(tactic| with_reducible refine z_notNI ?_)
local macro_rules | `(tactic| walk_at "z") => `(tactic| with_reducible refine z_notNN ?_)
local macro_rules | `(tactic| walk_at "z") => `(tactic| with_reducible refine z_gsub ?_)
local macro_rules | `(tactic| walk_at "z") => `(tactic| with_reducible refine z_isNb ?_)
local macro_rules | `(tactic| walk_at "z") => `(tactic| with_reducible refine z_notNb ?_)
local macro_rules | `(tactic| walk_at "z") => `(tactic| ((with_reducible refine' z_nlR ?zl1 ?_); (case zl1 => exact Nat.le_of_ble_eq_true rfl); intro p H' hp hs he))
local macro_rules | `(tactic| walk_at "z") => `(tactic| ((with_reducible refine' z_repR ?zl1 ?zl2 ?_); (case zl1 => omega); (case zl2 => omega)))
local macro_rules | `(tactic| walk_at "z") => `(tactic| ((with_reducible refine' z_repL ?zl1 ?zl2 ?_); (case zl1 => omega); (case zl2 => omega)))
local macro_rules | `(tactic| walk_at "z") => `(tactic| ((with_reducible refine' z_lenLst ?zl1 ?_); (case zl1 => walk_at "up")))
local macro_rules | `(tactic| walk_at "z") => `(tactic| ((with_reducible refine' z_cat ?zl1 ?zl2 ?zl3 ?_); (case zl1 => walk_at "up"); (case zl2 => walk_at "up"); (case zl3 => (simp only [List.length_map, List.length_cons, List.length_nil, List.length_append, List.length_replicate]; omega)); intro p H' hp hs he))
local macro_rules | `(tactic| walk_at "z") => `(tactic| with_reducible refine z_sfl ?_)
local macro_rules | `(tactic| walk_at "z") => `(tactic| with_reducible refine z_lcES ?_)
local macro_rules | `(tactic| walk_at "z") => `(tactic| with_reducible refine z_lcMS ?_)
local macro_rules | `(tactic| walk_at "z") => `(tactic| with_reducible refine z_foES ?_)
local macro_rules | `(tactic| walk_at "z") => `(tactic| with_reducible refine z_fo3S ?_)
local macro_rules | `(tactic| walk_at "z") => `(tactic| with_reducible refine z_sta ?_)
local macro_rules | `(tactic| walk_at "z") => `(tactic| with_reducible refine z_sta1 ?_)
local macro_rules | `(tactic| walk_at "z") => `(tactic| with_reducible refine z_lcTS ?_)
local macro_rules | `(tactic| walk_at "z") => `(tactic| with_reducible refine z_foTS ?_)
local macro_rules | `(tactic| walk_at "z") => `(tactic| with_reducible refine z_revTS ?_)
local macro_rules | `(tactic| walk_at "z") => `(tactic| with_reducible refine z_max2 ?_)
local macro_rules | `(tactic| walk_at "z") => `(tactic| ((with_reducible refine' z_fldt ?zc1 ?zc2 ?zl1 ?zl2 ?_); (case zc1 => exact Lw.cl_Ratio (by assumption)); (case zc2 => exact Lw.na_Ratio_top (by assumption)); (case zl1 => exact rfl); (case zl2 => walk_at "up")))
local macro_rules | `(tactic| walk_at "z") => `(tactic| ((with_reducible refine' z_fldb ?zc1 ?zc2 ?zl1 ?zl2 ?_); (case zc1 => exact Lw.cl_Ratio (by assumption)); (case zc2 => exact Lw.na_Ratio_bottom (by assumption)); (case zl1 => exact rfl); (case zl2 => walk_at "up")))
local macro_rules | `(tactic| walk_at "z") => `(tactic| ((with_reducible refine' u_mtF ?zl1 ?_); (case zl1 => walk_at "up")))
local macro_rules | `(tactic| walk_at "z") => `(tactic| ((with_reducible refine' z_ixLst ?zl1 ?zl2 ?_); (case zl1 => walk_at "up"); (case zl2 => exact rfl)))
local macro_rules | `(tactic| walk_at "z") => `(tactic| with_reducible refine z_yes ?_)
local macro_rules | `(tactic| walk_at "z") => `(tactic| with_reducible refine z_if1 ?_)
local macro_rules | `(tactic| walk_at "z") => `(tactic| with_reducible refine z_dg ?_)
local macro_rules | `(tactic| walk_at "z") => `(tactic| with_reducible refine z_di ?_)
local macro_rules | `(tactic| walk_at "z") => `(tactic| with_reducible refine z_dp ?_)
local macro_rules | `(tactic| walk_at "z") => `(tactic| with_reducible refine z_foKS ?_)
local macro_rules | `(tactic| walk_at "z") => `(tactic| with_reducible refine z_foPS ?_)
local macro_rules | `(tactic| walk_at "z") => `(tactic| with_reducible refine z_foTS ?_)
local macro_rules | `(tactic| walk_at "z") => `(tactic| with_reducible refine z_lcKS ?_)
local macro_rules | `(tactic| walk_at "z") => `(tactic| with_reducible refine z_lcTS ?_)
local macro_rules | `(tactic| walk_at "z") => `(tactic| with_reducible refine z_dcTS ?_)
local macro_rules | `(tactic| walk_at "z") => `(tactic| with_reducible refine z_dcPS ?_)
local macro_rules | `(tactic| walk_at "z") => `(tactic| with_reducible refine z_fixV ?_)
local macro_rules | `(tactic| walk_at "z") => `(tactic| with_reducible refine z_mkk ?_)
local macro_rules | `(tactic| walk_at "z") => `(tactic| with_reducible refine z_sta ?_)
local macro_rules | `(tactic| walk_at "z") => `(tactic| with_reducible refine z_sta1 ?_)
local macro_rules | `(tactic| walk_at "z") => `(tactic| with_reducible refine z_ckw ?_)
local macro_rules | `(tactic| walk_at "z") => `(tactic| with_reducible refine z_cmpD ?_)
local macro_rules | `(tactic| walk_at "z") => `(tactic| with_reducible refine z_pk1 ?_)
local macro_rules | `(tactic| walk_at "z") => `(tactic| with_reducible refine z_tBD ?_)
local macro_rules | `(tactic| walk_at "z") => `(tactic| ((with_reducible refine' z_fl ?zc1 ?zc2 ?zl1 ?zl2 ?_); (case zc1 => exact Lw.cl_Form (by assumption)); (case zc2 => exact Lw.na_Form_letters (by assumption)); (case zl1 => exact rfl); (case zl2 => walk_at "up")))
local macro_rules | `(tactic| walk_at "z") => `(tactic| ((with_reducible refine' z_ft ?zc1 ?zc2 ?zl1 ?zl2 ?_); (case zc1 => exact Lw.cl_Form (by assumption)); (case zc2 => exact Lw.na_Form_terms (by assumption)); (case zl1 => exact rfl); (case zl2 => walk_at "up")))
local macro_rules | `(tactic| walk_at "z") => `(tactic| ((with_reducible refine' z_fd ?zc1 ?zc2 ?zl1 ?zl2 ?_); (case zc1 => exact Lw.cl_Form (by assumption)); (case zc2 => exact Lw.na_Form_degree (by assumption)); (case zl1 => exact rfl); (case zl2 => walk_at "up")))
theorem sameFE {H H1 H2 : Hp} (h : Same H1 H2) (e : Same H H1) : Same H H2 := e.trans h
local macro_rules | `(tactic| walk_at "sm") => `(tactic| first
  | assumption
  | exact fun _ _ h => h
  | (refine' sameFE (by assumption) ?zsm; case zsm => walk_at "sm"))
local macro_rules | `(tactic| walk_at "up") => `(tactic| first
  | assumption
  | (with_reducible refine' IsR.mono (by assumption) ?zup; case zup => walk_at "up")
  | (with_reducible refine' Fr.mono (by assumption) ?zup; case zup => walk_at "up")
  | (with_reducible refine' IsFm.mono (by assumption) ?zup; case zup => walk_at "up")
  | (with_reducible refine' Frz.mono (by assumption) ?zup; case zup => walk_at "up")
  | (with_reducible refine' Fo.mono (by assumption) ?zup; case zup => walk_at "up")
  | (with_reducible refine' La.mono (by assumption) ?zup; case zup => walk_at "up")
  | (with_reducible refine' Ta.mono (by assumption) ?zup; case zup => walk_at "up")
  | (with_reducible refine' PrL.mono (by assumption) ?zup; case zup => walk_at "up")
  | (with_reducible refine' EnA.mono (by assumption) ?zup; case zup => walk_at "up")
  | (with_reducible refine' Srt.mono (by assumption) ?zup; case zup => walk_at "up")
  | (with_reducible refine' Same.at (by assumption) ?zup; case zup => walk_at "up")
  | fail)
section
variable {P : Program} {w : World} {K : Frag} {mg : Str → Option Value} {base : Heap}
theorem ok_law_gcd (L : Lw K mg) {fd : FuncData} (F : FunD K "_law_gcd" "_law_gcd" (defArgs s_law_gcd) (defBody s_law_gcd) (defScope s_law_gcd) (df_law_gcd.dvs K) (df_law_gcd.kws K) (He.fAd K ("_law_gcd", none)) fd) : FnOk P w K mg base (L2N.CX P w) 1 (He.fAd K ("_law_gcd", none)) fd (["a", "b"] : List Str) (sp2 fs_gcd) := by
  refine FunD.ok F sc_law_gcd len2 (fun cdv A outer s H vs Q E hr h => ?_)
  obtain ⟨a, b, rfl, h⟩ := h
  refine ⟨_, (pss_cons (ps_while (passes_of rfl) (pt_cmpR op_ne (pv 1) pe_int (nomark _)) (pss_cons (ps_set (i := 2) sc_law_gcd.nd rfl (by first | exact Or.inl rfl | exact Or.inr rfl) (pe_op op_modN (pe_callTy o_int1 (by rfl) L.f_int (by decide +kernel) (pa_cons (pv 0) pa_nil)) (pv 1)))
    (pss_cons (ps_set (i := 0) sc_law_gcd.nd rfl (by first | exact Or.inl rfl | exact Or.inr rfl) (pv 1))
    (pss_one (ps_set (i := 1) sc_law_gcd.nd rfl (by first | exact Or.inl rfl | exact Or.inr rfl) (pv 2))))))
    (pss_one (ps_ret (pe_callB o_abs (by rfl) L.f_abs (by decide +kernel) (pa_cons (pv 0) pa_nil))))), ?_⟩
  rw [show L2.start (["a", "b", "rest"] : List Str) [a, b] = [some a, some b, none] from rfl]
  obtain ⟨i, j, rfl, rfl, q⟩ := h
  try dsimp only [List.set]
  walk_at "zz"
  refine ⟨fun m σ' H' => ∃ (u v : Int) (o3 : Option V), σ' = [some (.int u), some (.int v), o3] ∧ H' = H ∧ m = v.natAbs ∧ Int.gcd u v = Int.gcd i j, ⟨_, _, _, _, rfl, rfl, rfl, rfl⟩, ?_⟩
  rintro m σ' H' ⟨u, v, o3, rfl, rfl, rfl, e⟩
  try dsimp only [List.set]
  walk_at "zz"
  refine z_d2 (fun c => ?_) (fun c => ?_)
  · subst c
    try dsimp only [List.set]
    walk_at "zz"
    rw [Int.gcd_zero_right] at e
    rw [e]
    exact q
  · refine ⟨_, fun _ _ h => h, ?_⟩
    try dsimp only [List.set]
    walk_at "zz"
    refine ⟨_, _, rfl, rfl, c, ?_⟩
    try dsimp only [List.set]
    walk_at "zz"
    exact ⟨_, fmod_lt (u := u) c, _, _, _, rfl, rfl, rfl, by rw [gcd_fmod]; exact e⟩
theorem c_law_gcd (L : Lw K mg) : Cal P w K mg base 1 "_law_gcd" (sp2 fs_gcd) [] := by
  obtain ⟨fd, F⟩ := L.d_law_gcd
  exact ⟨⟨_, fd, ["a", "b"], [], ok_law_gcd L F, L.g_law_gcd, F.kp, F.bindsN (fun _ _ _ _ _ _ us hl => match us, hl with | [_, _], _ => rfl), .nil⟩⟩
theorem ok_law_whole (L : Lw K mg) {fd : FuncData} (F : FunD K "_law_whole" "_law_whole" (defArgs s_law_whole) (defBody s_law_whole) (defScope s_law_whole) (df_law_whole.dvs K) (df_law_whole.kws K) (He.fAd K ("_law_whole", none)) fd) : FnOk P w K mg base (L2N.CX P w) 1 (He.fAd K ("_law_whole", none)) fd (["x"] : List Str) (sp1 fs_who) := by
  refine FunD.ok F sc_law_whole len1 (fun cdv A outer s H vs Q E hr h => ?_)
  obtain ⟨a, rfl, h⟩ := h
  refine ⟨_, (pss_one (ps_ret (pe_and (pe_callB (callK rIsi (K := K) rfl call_isi) (by rfl) L.f_isinstance (by decide +kernel) (pa_cons (pv 0) (pa_cons (pe_ty "int" (by rfl) L.f_int (by decide +kernel)) pa_nil))) (pe_one (pe_not (pe_callB (callK rIsi (K := K) rfl call_isi) (by rfl) L.f_isinstance (by decide +kernel) (pa_cons (pv 0) (pa_cons (pe_ty "bool" (by rfl) L.f_bool (by decide +kernel)) pa_nil)))))))), ?_⟩
  obtain ⟨i, rfl, q⟩ := h
  walk_at "zz"
  exact q
theorem c_law_whole (L : Lw K mg) : Cal P w K mg base 1 "_law_whole" (sp1 fs_who) [] := by
  obtain ⟨fd, F⟩ := L.d_law_whole
  exact ⟨⟨_, fd, ["x"], [], ok_law_whole L F, L.g_law_whole, F.kp, F.bindsN (fun _ _ _ _ _ _ us hl => match us, hl with | [_], _ => rfl), .nil⟩⟩
theorem ok_law_draw (L : Lw K mg) {fd : FuncData} (F : FunD K "_law_draw" "_law_draw" (defArgs s_law_draw) (defBody s_law_draw) (defScope s_law_draw) (df_law_draw.dvs K) (df_law_draw.kws K) (He.fAd K ("_law_draw", none)) fd) : FnOk P w K mg base (L2N.CX P w) 1 (He.fAd K ("_law_draw", none)) fd (["cells", "k", "count"] : List Str) (sp3 fs_draw) := by
  refine FunD.ok F sc_law_draw len3 (fun cdv A outer s H vs Q E hr h => ?_)
  obtain ⟨a, b, c, rfl, h⟩ := h
  refine ⟨_, (pss_cons (ps_set (i := 3) sc_law_draw.nd rfl (by first | exact Or.inl rfl | exact Or.inr rfl) pe_int)
    (pss_cons (ps_if (pt_cmpR o_lt (pv 1) (pe_callB (callK rLen1 (K := K) rfl o_len) (by rfl) L.f_len (by decide +kernel) (pa_cons (pv 0) pa_nil)) (nomark _)) (pss_one (ps_set (i := 3) sc_law_draw.nd rfl (by first | exact Or.inl rfl | exact Or.inr rfl) (pe_ix (ix_seqK (K := K) rfl) (pv 0) (pv 1) (fun _ _ => rfl)))) pss_nil)
    (pss_cons (ps_set (i := 4) sc_law_draw.nd rfl (by first | exact Or.inl rfl | exact Or.inr rfl) (pe_lst pa_nil))
    (pss_cons (ps_for (passes_of rfl) rfl (pi_range1 (by rfl) L.f_range (pa_cons (pv 2) pa_nil)) (pg_name (i := 5) sc_law_draw.nd rfl (by first | exact Or.inl rfl | exact Or.inr rfl)) (pss_cons (ps_expr (pe_bm PySem.F.plainAttrs_list PySem.F.slot_list_append PySem.F.type_list_append mt_append (pv 4) (pa_cons (pe_op o_mod (pe_callTy o_int1 (by rfl) L.f_int (by decide +kernel) (pa_cons (pv 3) pa_nil)) pe_int) pa_nil)))
    (pss_one (ps_set (i := 3) sc_law_draw.nd rfl (by first | exact Or.inl rfl | exact Or.inr rfl) (pe_op o_div (pv 3) pe_int)))))
    (pss_one (ps_ret (pv 4))))))), ?_⟩
  rw [show L2.start (["cells", "k", "count", "number", "row", "j"] : List Str) [a, b, c] = [some a, some b, some c, none, none, none] from rfl]
  obtain ⟨p, k, m, rfl, rfl, rfl, ⟨ns, hp⟩, k0, hm, q⟩ := h
  try dsimp only [List.set]
  walk_at "zz"
  refine z_d2 (fun c => ?_) (fun c => ?_)
  · rw [List.length_map] at c
    try dsimp only [List.set]
    walk_at "zz"
    refine z_ixC hp k0 (by omega) ?_
    try dsimp only [List.set]
    walk_at "zz"
    rename_i r0 H1 h0r s1 e1
    try dsimp only [List.set]
    walk_at "zz"
    refine z_foR (by omega) (by omega) (fun i σ Hi => ∃ (v : Int) (o5 : Option V) (ds : List Int), σ = [some (V.ref p), some (V.int k), some (V.int (m : Int)), some (V.int v), some (V.ref r0), o5] ∧ But r0 H1 Hi ∧ Hi r0 = some (.lst (ds.map V.int)) ∧ ds.length = i ∧ Dgs ds) ⟨_, _, [], rfl, (fun _ _ _ e => e), e1, rfl, fun d m => nomatch m⟩ (fun i σ Hi hi I => ?_) (fun σ Hi I => ?_)
    · obtain ⟨v, o5, ds, rfl, b, hr, lr, hd⟩ := I
      try dsimp only [List.set]
      walk_at "zz"
      refine z_app rfl hr ?_
      try dsimp only [List.set]
      walk_at "zz"
      refine z_mod (by decide) ?_
      try dsimp only [List.set]
      walk_at "zz"
      refine z_ap hr (by rw [List.length_map]; omega) ?_
      try dsimp only [List.set]
      walk_at "zz"
      refine ⟨_, _, ds ++ [v % 10], rfl, put_but b, ?_, by rw [List.length_append, lr]; rfl, fun d m => ?_⟩
      · rw [upd_same, List.map_append]
        rfl
      · rcases List.mem_append.mp m with m | m
        · exact hd d m
        · rw [List.mem_singleton.mp m]
          omega
    · obtain ⟨v, o5, ds, rfl, b, hr, lr, hd⟩ := I
      try dsimp only [List.set]
      walk_at "zz"
      exact q r0 Hi ds (same_but h0r fun a o ne e => b a o ne (s1 _ _ e)) hr (by omega) hd
  · try dsimp only [List.set]
    walk_at "zz"
    rename_i r0 H1 h0r s1 e1
    try dsimp only [List.set]
    walk_at "zz"
    refine z_foR (by omega) (by omega) (fun i σ Hi => ∃ (v : Int) (o5 : Option V) (ds : List Int), σ = [some (V.ref p), some (V.int k), some (V.int (m : Int)), some (V.int v), some (V.ref r0), o5] ∧ But r0 H1 Hi ∧ Hi r0 = some (.lst (ds.map V.int)) ∧ ds.length = i ∧ Dgs ds) ⟨_, _, [], rfl, (fun _ _ _ e => e), e1, rfl, fun d m => nomatch m⟩ (fun i σ Hi hi I => ?_) (fun σ Hi I => ?_)
    · obtain ⟨v, o5, ds, rfl, b, hr, lr, hd⟩ := I
      try dsimp only [List.set]
      walk_at "zz"
      refine z_app rfl hr ?_
      try dsimp only [List.set]
      walk_at "zz"
      refine z_mod (by decide) ?_
      try dsimp only [List.set]
      walk_at "zz"
      refine z_ap hr (by rw [List.length_map]; omega) ?_
      try dsimp only [List.set]
      walk_at "zz"
      refine ⟨_, _, ds ++ [v % 10], rfl, put_but b, ?_, by rw [List.length_append, lr]; rfl, fun d m => ?_⟩
      · rw [upd_same, List.map_append]
        rfl
      · rcases List.mem_append.mp m with m | m
        · exact hd d m
        · rw [List.mem_singleton.mp m]
          omega
    · obtain ⟨v, o5, ds, rfl, b, hr, lr, hd⟩ := I
      try dsimp only [List.set]
      walk_at "zz"
      exact q r0 Hi ds (same_but h0r fun a o ne e => b a o ne (s1 _ _ e)) hr (by omega) hd
theorem c_law_draw (L : Lw K mg) : Cal P w K mg base 1 "_law_draw" (sp3 fs_draw) [] := by
  obtain ⟨fd, F⟩ := L.d_law_draw
  exact ⟨⟨_, fd, ["cells", "k", "count"], [], ok_law_draw L F, L.g_law_draw, F.kp, F.bindsN (fun _ _ _ _ _ _ us hl => match us, hl with | [_, _, _], _ => rfl), .nil⟩⟩
end
local macro_rules | `(tactic| walk_at "z") => `(tactic| ((with_reducible refine' z_isTup ?zl1 ?_); (case zl1 => walk_at "up")))
local macro_rules | `(tactic| walk_at "z") => `(tactic| ((with_reducible refine' z_isR ?zl1 ?zl2 ?zl3 ?_); (case zl1 => exact Lw.in_Ratio (by assumption)); (case zl2 => exact Lw.kt_Ratio_Ratio (by assumption)); (case zl3 => walk_at "up")))
local macro_rules | `(tactic| walk_at "z") => `(tactic| ((with_reducible refine' z_isFm ?zl1 ?zl2 ?zl3 ?_); (case zl1 => exact Lw.in_Form (by assumption)); (case zl2 => exact Lw.kt_Form_Form (by assumption)); (case zl3 => walk_at "up")))
local macro_rules | `(tactic| walk_at "z") => `(tactic| with_reducible refine u_who ?_)
local macro_rules | `(tactic| walk_at "z") => `(tactic| with_reducible refine u_gcd ?_)
section
variable {P : Program} {w : World} {K : Frag} {mg : Str → Option Value} {base : Heap}
theorem ok_law_is_row (L : Lw K mg) {fd : FuncData} (F : FunD K "_law_is_row" "_law_is_row" (defArgs s_law_is_row) (defBody s_law_is_row) (defScope s_law_is_row) (df_law_is_row.dvs K) (df_law_is_row.kws K) (He.fAd K ("_law_is_row", none)) fd) : FnOk P w K mg base (L2N.CX P w) 2 (He.fAd K ("_law_is_row", none)) fd (["x", "due"] : List Str) (sp2 fs_irow) := by
  refine FunD.ok F sc_law_is_row len2 (fun cdv A outer s H vs Q E hr h => ?_)
  obtain ⟨a, b, rfl, h⟩ := h
  refine ⟨_, (pss_cons (ps_if (PW.pt (pw_or (pt_not (pt_val (pe_callB (callK rIsi (K := K) rfl call_isi) (by rfl) L.f_isinstance (by decide +kernel) (pa_cons (pv 0) (pa_cons (pe_ty "tuple" (by rfl) L.f_tuple (by decide +kernel)) pa_nil))))) (pw_or1 (pt_cmpR op_ne (pe_callB (callK rLen1 (K := K) rfl o_len) (by rfl) L.f_len (by decide +kernel) (pa_cons (pv 0) pa_nil)) (pe_callB (callK rLen1 (K := K) rfl o_len) (by rfl) L.f_len (by decide +kernel) (pa_cons (pv 1) pa_nil)) (nomark _))))) (pss_one (ps_ret pe_bl)) pss_nil)
    (pss_cons (ps_set (i := 2) sc_law_is_row.nd rfl (by first | exact Or.inl rfl | exact Or.inr rfl) (pe_callB (callK rLen1 (K := K) rfl o_len) (by rfl) L.f_len (by decide +kernel) (pa_cons (pv 0) pa_nil)))
    (pss_one (ps_ret (pe_callB (callK rAll (K := K) rfl (cr_all rfl)) (by rfl) L.f_all (by decide +kernel) (pa_cons (pe_lc (own := [("k", 3)]) (g := (gName 3)) (tt := tYes) rfl sc_law_is_row.nd (pi_range1 (by rfl) L.f_range (pa_cons (pv 2) pa_nil)) (blkOk_by (N := ["x", "due", "size", "k"]) (sc := defScope s_law_is_row) (by decide +kernel)) (fun _ _ _ _ _ => pg_name (i := 3) sc_law_is_row.nd rfl (Or.inl rfl)) (fun _ _ _ _ _ => pts_nil) (fun _ _ _ _ _ => (pe_and (pe_c (c_law_whole (K := K) L) hr (by decide) takesF (pa_cons (pe_ix (ix_seqK (K := K) rfl) (pv 0) (pv 3) (fun _ _ => rfl)) pa_nil)) (pe_one (pe_cmpR op_eq (pe_ix (ix_seqK (K := K) rfl) (pv 0) (pv 3) (fun _ _ => rfl)) (pe_ix (ix_seqK (K := K) rfl) (pv 1) (pv 3) (fun _ _ => rfl)) (nomark _)))))) pa_nil)))))), ?_⟩
  rw [show L2.start (["x", "due", "size", "k"] : List Str) [a, b] = [some a, some b, none, none] from rfl]
  obtain ⟨p, q, e, rfl, rfl, hp, hq, he, k⟩ := h
  try dsimp only [List.set]
  walk_at "zz"
  refine z_lenT hp ?_
  try dsimp only [List.set]
  walk_at "zz"
  refine z_lenT hq ?_
  try dsimp only [List.set]
  walk_at "zz"
  refine z_d2 (fun c => ?_) (fun c => absurd rfl c)
  try dsimp only [List.set]
  walk_at "zz"
  refine z_lenT hp ?_
  try dsimp only [List.set]
  walk_at "zz"
  rw [List.length_map]
  refine z_lcR (fun _ => V.bl true) (by omega) (by omega) (fun j H1 Nx hj s1 cc => ⟨rfl, ?_⟩) (fun D H1 hD s1 h1 => ?_)
  · have lj : j < e.length := by omega
    have ej : atI (e.map V.int) (j : Int) = some (.int e[j]) := atI_nat (by rw [List.getElem?_map, List.getElem?_eq_getElem lj]; rfl)
    try dsimp only [List.set]
    walk_at "zz"
    refine z_ixT (s1 _ _ hp) ej ?_
    try dsimp only [List.set]
    walk_at "zz"
    refine z_ixT (s1 _ _ hp) ej ?_
    try dsimp only [List.set]
    walk_at "zz"
    refine z_ixT (s1 _ _ hq) ej ?_
    try dsimp only [List.set]
    walk_at "zz"
    rw [decide_eq_true rfl]
    exact cc _ (fun _ _ h => h)
  rw [all_true] at h1
  try dsimp only [List.set]
  walk_at "zz"
  refine z_allB h1 ?_
  try dsimp only [List.set]
  walk_at "zz"
  have : (List.replicate ((e.length : Int)).toNat true).all id = true := by simp
  rw [this]
  exact k H1 s1
theorem c_law_is_row (L : Lw K mg) : Cal P w K mg base 2 "_law_is_row" (sp2 fs_irow) [] := by
  obtain ⟨fd, F⟩ := L.d_law_is_row
  exact ⟨⟨_, fd, ["x", "due"], [], ok_law_is_row L F, L.g_law_is_row, F.kp, F.bindsN (fun _ _ _ _ _ _ us hl => match us, hl with | [_, _], _ => rfl), .nil⟩⟩
theorem ok_law_is_ratio (L : Lw K mg) {fd : FuncData} (F : FunD K "_law_is_ratio" "_law_is_ratio" (defArgs s_law_is_ratio) (defBody s_law_is_ratio) (defScope s_law_is_ratio) (df_law_is_ratio.dvs K) (df_law_is_ratio.kws K) (He.fAd K ("_law_is_ratio", none)) fd) : FnOk P w K mg base (L2N.CX P w) 2 (He.fAd K ("_law_is_ratio", none)) fd (["x", "top", "bottom"] : List Str) (sp3 (fs_irat K)) := by
  refine FunD.ok F sc_law_is_ratio len3 (fun cdv A outer s H vs Q E hr h => ?_)
  obtain ⟨a, b, c, rfl, h⟩ := h
  refine ⟨_, (pss_cons (ps_if (PW.pt (pw_or (pt_not (pt_val (pe_callB (callK rIsi (K := K) rfl call_isi) (by rfl) L.f_isinstance (by decide +kernel) (pa_cons (pv 0) (pa_cons (pe_cls L.g_Ratio) pa_nil))))) (pw_or (pt_not (pt_val (pe_c (c_law_whole (K := K) L) hr (by decide) (L2N.takes_of rfl rfl rfl rfl) (pa_cons (pe_fld (pv 0) rfl) pa_nil)))) (pw_or1 (pt_not (pt_val (pe_c (c_law_whole (K := K) L) hr (by decide) (L2N.takes_of rfl rfl rfl rfl) (pa_cons (pe_fld (pv 0) rfl) pa_nil)))))))) (pss_one (ps_ret pe_bl)) pss_nil)
    (pss_cons (ps_set (i := 3) sc_law_is_ratio.nd rfl (by first | exact Or.inl rfl | exact Or.inr rfl) (pe_c (c_law_gcd (K := K) L) hr (by decide) (L2N.takes_of rfl rfl rfl rfl) (pa_cons (pv 1) (pa_cons (pv 2) pa_nil))))
    (pss_one (ps_ret (pe_and (pe_cmpR op_eq (pe_fld (pv 0) rfl) (pe_op o_div (pv 1) (pv 3)) (nomark _)) (pe_one (pe_cmpR op_eq (pe_fld (pv 0) rfl) (pe_op o_div (pv 2) (pv 3)) (nomark _)))))))), ?_⟩
  rw [show L2.start (["x", "top", "bottom", "g"] : List Str) [a, b, c] = [some a, some b, some c, none] from rfl]
  obtain ⟨p, F, N, x, y, rfl, rfl, rfl, hfr, N0, y0, y1, e, q⟩ := h
  obtain ⟨t, b, hr, b0, g, e2⟩ := id hfr
  obtain ⟨g1, g2⟩ := low_gcd b0 g N0 y0 e2 e
  have gp : (0 : Int) < (Int.gcd x y : Nat) := by
    have : Int.gcd x y ≠ 0 := fun z => by
      have := (Int.gcd_eq_zero_iff.mp z).2
      omega
    omega
  have gl : ((Int.gcd x y : Nat) : Int) ≤ y := Int.le_of_dvd y0 (Int.gcd_dvd_right x y)
  try dsimp only [List.set]
  walk_at "zz"
  rw [if_pos (decide_eq_true g1)]
  try dsimp only [List.set]
  walk_at "zz"
  rw [decide_eq_true g2]
  exact q
theorem c_law_is_ratio (L : Lw K mg) : Cal P w K mg base 2 "_law_is_ratio" (sp3 (fs_irat K)) [] := by
  obtain ⟨fd, F⟩ := L.d_law_is_ratio
  exact ⟨⟨_, fd, ["x", "top", "bottom"], [], ok_law_is_ratio L F, L.g_law_is_ratio, F.kp, F.bindsN (fun _ _ _ _ _ _ us hl => match us, hl with | [_, _, _], _ => rfl), .nil⟩⟩
theorem ok_law_in_order (L : Lw K mg) {fd : FuncData} (F : FunD K "_law_in_order" "_law_in_order" (defArgs s_law_in_order) (defBody s_law_in_order) (defScope s_law_in_order) (df_law_in_order.dvs K) (df_law_in_order.kws K) (He.fAd K ("_law_in_order", none)) fd) : FnOk P w K mg base (L2N.CX P w) 1 (He.fAd K ("_law_in_order", none)) fd (["a"] : List Str) (sp1 fs_ino) := by
  refine FunD.ok F sc_law_in_order len1 (fun cdv A outer s H vs Q E hr h => ?_)
  obtain ⟨a, rfl, h⟩ := h
  refine ⟨_, (pss_cons (ps_setLc (i := 1) (own := [("ex", 2)]) (g := (gName 2)) (tt := _) rfl sc_law_in_order.nd rfl rfl (sw_true rfl rfl rfl (by decide +kernel)) (pi_keysT (pe_ix (ix_seqK (K := K) rfl) (pv 0) pe_int (fun _ _ => rfl))) (blkOk_by (N := ["a", "ranks", "ex", "rank"]) (sc := defScope s_law_in_order) (by decide +kernel)) (fun _ _ _ _ _ => pg_name (i := 2) sc_law_in_order.nd rfl (Or.inl rfl)) (fun _ _ _ _ _ => (pts_one (pt_cmpR op_ne (pe_dget (hu1 hr) (pe_ix (ix_seqK (K := K) rfl) (pv 0) pe_int (fun _ _ => rfl)) (pv 2) (fun _ _ => rfl)) pe_int (nomark _)))) (fun _ _ _ _ _ => (pe_tup (pa_cons (pe_callB (callK rSumS (K := K) rfl (cr_sumS rfl)) (by rfl) L.f_sum (by decide +kernel) (pa_cons (pv 2) pa_nil)) (pa_cons (pv 2) pa_nil)))))
    (pss_one (ps_ret (pe_lc (own := [("rank", 3)]) (g := (gName 3)) (tt := tYes) rfl sc_law_in_order.nd (pi_listK (K := K) rfl (pe_callBK (cr_sortP (K := K) rfl hr) (by rfl) L.f_sorted (by decide +kernel) (pa_cons (pv 1) pa_nil) (pk_cons pe_bl pk_nil))) (blkOk_by (N := ["a", "ranks", "ex", "rank"]) (sc := defScope s_law_in_order) (by decide +kernel)) (fun _ _ _ _ _ => pg_name (i := 3) sc_law_in_order.nd rfl (Or.inl rfl)) (fun _ _ _ _ _ => pts_nil) (fun _ _ _ _ _ => (pe_ix (ix_seqK (K := K) rfl) (pv 3) pe_int (fun _ _ => rfl))))))), ?_⟩
  rw [show L2.start (["a", "ranks", "ex", "rank"] : List Str) [a] = [some a, none, none, none] from rfl]
  obtain ⟨t, n, c, F, N, B, S, rfl, hLa, hS, k⟩ := h
  obtain ⟨o, d, T, ht, ⟨hF, nd, hk, lT⟩, o0, dv, N0, N1, hv⟩ := id hLa
  try dsimp only [List.set]
  walk_at "zz"
  refine z_lcKW hF (fun i H ys => ∃ cs : List Pq, ys = cs.map (fun c => V.ref c.1) ∧ cs.map (·.2) = (((T.map (·.1)).take i).filter (fun e => decide (vl T e ≠ 0))).map (fun e => (e.sum, e)) ∧ ∀ c, c ∈ cs → PqAt H n c) (fun i H H' ys s p => ?_) (fun i H ys p => ?_) (by omega) (fun H => ⟨[], rfl, rfl, fun c m => nomatch m⟩) (fun i e y q H1 ys Nx Mx hi hq s1 p cN cM => ?_) (fun D H1 ys hD s1 h1 p => ?_)
  · obtain ⟨cs, e1, e2, e3⟩ := p
    exact ⟨cs, e1, e2, fun c m => PqAt.monoN s (e3 c m)⟩
  · obtain ⟨cs, e1, e2, e3⟩ := p
    have := congrArg List.length e2
    have l2 := List.length_filter_le (fun e => decide (vl T e ≠ 0)) ((T.map (·.1)).take i)
    rw [List.length_take] at l2
    rw [List.length_map, List.length_map] at this
    rw [e1, List.length_map]
    omega
  · have hlk := lkT_mem nd (List.mem_of_getElem? hi)
    have hsh := (hk _ (List.mem_of_getElem? hi)).1
    dsimp only at hlk hsh
    have hke : (T.map (·.1))[i]? = some e := by
      rw [List.getElem?_map, hi]
      rfl
    have vy : vl T e = y := by
      rw [vl_lk nd, hlk]
      rfl
    have hF1 := hF.mono s1
    have ht1 := s1 _ _ ht
    obtain ⟨cs, e1, e2, e3⟩ := p
    refine ⟨rfl, ?_⟩
    try dsimp only [List.set]
    walk_at "zz"
    refine z_dgf hF1 hq hlk ?_
    try dsimp only [List.set]
    walk_at "zz"
    refine z_d2 (fun c9 => ?_) (fun c9 => ?_)
    · try dsimp only [List.set]
      walk_at "zz"
      refine cM _ (fun _ _ h => h) ⟨cs, e1, ?_, e3⟩
      rw [take_succ' hke, List.filter_append, List.filter_cons_of_neg (by rw [vy]; simpa using c9), e2]
      simp
    · try dsimp only [List.set]
      walk_at "zz"
      refine z_sumT hq ?_
      try dsimp only [List.set]
      walk_at "zz"
      rename_i tt H2 htt s2 et
      refine cN _ _ s2 ⟨cs ++ [(tt, e.sum, e)], by rw [e1]; simp, ?_, fun c m => ?_⟩
      · rw [take_succ' hke, List.filter_append, List.filter_cons_of_pos (by rw [vy]; exact decide_eq_true c9), List.map_append, List.map_append, e2]
        rfl
      · rcases List.mem_append.mp m with m | m
        · exact PqAt.monoN (SameN.of s2) (e3 c m)
        · rw [List.mem_singleton.mp m]
          exact ⟨hsh.1, q, et, s2 _ _ hq⟩
  obtain ⟨cs, rfl, e2, e3⟩ := p
  try dsimp only [List.set]
  walk_at "zz"
  refine ⟨D, cs, n, rfl, rfl, SqL.of h1, e3, fun cs2 p2 pm pw hp2 => ?_⟩
  have lT2 : (T.map (·.1)).length = T.length := by rw [List.length_map]
  rw [← lT2, List.take_length] at e2
  obtain ⟨dn, nd2, mem2, len2, sum2⟩ := sorted_keys pm pw e2 (List.Nodup.sublist List.filter_sublist nd)
  have s2 : Same H1 (upd H1 p2 (.lst (cs2.map fun b => V.ref b.1))) := Same.new hp2
  have h2 : upd H1 p2 (.lst (cs2.map fun b => V.ref b.1)) p2 = some (.lst (cs2.map fun b => V.ref b.1)) := upd_same
  have e4 : ∀ c, c ∈ cs2 → PqAt (upd H1 p2 (.lst (cs2.map fun b => V.ref b.1))) n c := fun c m => PqAt.monoN (SameN.of s2) (e3 c (pm.mem_iff.mp m))
  generalize (upd H1 p2 (.lst (cs2.map fun b => V.ref b.1))) = H2 at *
  have lc : cs2.length ≤ T.length := by
    have l2 := List.length_filter_le (fun e => decide (vl T e ≠ 0)) (T.map (·.1))
    omega
  try dsimp only [List.set]
  walk_at "zz"
  refine z_lcLW h2 (fun i H ys => KyL H ys ((cs2.map (fun c : Pq => c.2.2)).take i)) (fun i H H' ys s p => p.monoN s) (fun i H ys p => ?_) (by rw [List.length_map]; omega) (fun H => ⟨rfl, fun k x e h => by simp at h⟩) (fun i x H3 ys Nx Mx hi s3 p cN cM => ?_) (fun D H3 ys hD s3 h3 p => ?_)
  · rw [p.1, List.length_take]
    omega
  · rw [List.getElem?_map] at hi
    cases hc : cs2[i]? with
    | none =>
      rw [hc] at hi
      cases hi
    | some c =>
      rw [hc] at hi
      cases Option.some.inj hi
      obtain ⟨c1, q, c2, c3⟩ := e4 c (List.mem_of_getElem? hc)
      have hc1 := s3 _ _ c2
      have hq := s3 _ _ c3
      refine ⟨rfl, ?_⟩
      try dsimp only [List.set]
      walk_at "zz"
      refine cN _ _ (fun _ _ h => h) ?_
      rw [take_succ' (show (cs2.map (·.2.2))[i]? = some c.2.2 by rw [List.getElem?_map, hc]; rfl)]
      exact p.snoc hq
  · have lx : (cs2.map fun b => V.ref b.1).length = (cs2.map (·.2.2)).length := by rw [List.length_map, List.length_map]
    rw [lx, List.take_length] at p
    have nz := la_nz o0 N0 hv
    refine k D H3 ys _ ((Same.trans s1 s2).trans s3) h3 p ⟨dn, nd2, fun e => ?_, fun e m => ?_⟩ ?_
    · rw [mem2, List.mem_filter]
      constructor
      · intro h
        exact (nz e).mp (of_decide_eq_true h.2)
      · intro h
        have h9 := (nz e).mpr h
        obtain ⟨p5, m5, e5⟩ := vl_mem h9
        exact ⟨by rw [← e5]; exact List.mem_map_of_mem m5, decide_eq_true h9⟩
    · have m2 := (List.mem_filter.mp ((mem2 e).mp m)).1
      obtain ⟨p5, m5, e5⟩ := List.mem_map.mp m2
      rw [← e5]
      exact (hk p5 m5).1
    · rw [List.length_map]
      omega
theorem c_law_in_order (L : Lw K mg) : Cal P w K mg base 1 "_law_in_order" (sp1 fs_ino) [] := by
  obtain ⟨fd, F⟩ := L.d_law_in_order
  exact ⟨⟨_, fd, ["a"], [], ok_law_in_order L F, L.g_law_in_order, F.kp, F.bindsN (fun _ _ _ _ _ _ us hl => match us, hl with | [_], _ => rfl), .nil⟩⟩
theorem ok_law_degree (L : Lw K mg) {fd : FuncData} (F : FunD K "_law_degree" "_law_degree" (defArgs s_law_degree) (defBody s_law_degree) (defScope s_law_degree) (df_law_degree.dvs K) (df_law_degree.kws K) (He.fAd K ("_law_degree", none)) fd) : FnOk P w K mg base (L2N.CX P w) 2 (He.fAd K ("_law_degree", none)) fd (["a"] : List Str) (sp1 fs_deg) := by
  refine FunD.ok F sc_law_degree len1 (fun cdv A outer s H vs Q E hr h => ?_)
  obtain ⟨a, rfl, h⟩ := h
  refine ⟨_, (pss_one (ps_ret (pe_callB (callK rMax (K := K) rfl (cr_max rfl)) (by rfl) L.f_max (by decide +kernel) (pa_cons (pe_op o_cat (pe_lst (pa_cons (pe_un o_neg pe_int) pa_nil)) (pe_lc (own := [("ex", 1)]) (g := (gName 1)) (tt := tYes) rfl sc_law_degree.nd (pi_listK (K := K) rfl (pe_c (c_law_in_order (K := K) L) hr (by decide) (L2N.takes_of rfl rfl rfl rfl) (pa_cons (pv 0) pa_nil))) (blkOk_by (N := ["a", "ex"]) (sc := defScope s_law_degree) (by decide +kernel)) (fun _ _ _ _ _ => pg_name (i := 1) sc_law_degree.nd rfl (Or.inl rfl)) (fun _ _ _ _ _ => pts_nil) (fun _ _ _ _ _ => (pe_callB (callK rSumS (K := K) rfl (cr_sumS rfl)) (by rfl) L.f_sum (by decide +kernel) (pa_cons (pv 1) pa_nil))))) pa_nil)))), ?_⟩
  rw [show L2.start (["a", "ex"] : List Str) [a] = [some a, none] from rfl]
  obtain ⟨t, n, c, F, N, B, S, rfl, hLa, hS, k⟩ := h
  try dsimp only [List.set]
  walk_at "zz"
  rename_i pm Hm hpm sm em
  refine u_ino (hLa.mono sm) hS (fun D H1 xs l s1 h1 hky cn ll => ?_)
  try dsimp only [List.set]
  walk_at "zz"
  refine z_lcVF (fun k => V.int ((l.getD k []).sum)) h1 (by rw [hky.1]; omega) (fun k x H2 Nx hx s2 cc => ⟨rfl, ?_⟩) (fun D2 H2 hD2 s2 h2 => ?_)
  · have lk : k < l.length := by
      rw [← hky.1]
      exact (List.getElem?_eq_some_iff.mp hx).1
    obtain ⟨q, rfl, hq⟩ := hky.2 k x _ hx (List.getElem?_eq_getElem lk)
    have hq2 := s2 _ _ hq
    try dsimp only [List.set]
    walk_at "zz"
    refine z_sumT hq2 ?_
    have := cc H2 (fun _ _ h => h)
    rw [List.getD_eq_getElem?_getD, List.getElem?_eq_getElem lk] at this
    exact this
  rw [hky.1, sums_list] at h2
  have em2 := s2 _ _ (s1 _ _ em)
  have l1 : ((l.map (·.sum)).map V.int).length ≤ 100000 := by
    rw [List.length_map, List.length_map]
    omega
  refine z_cat em2 h2 (by show 1 + _ ≤ _; omega) (fun p4 H4 hp4 s4 h4 => ?_)
  have h5 : H4 p4 = some (.lst (((-1 : Int) :: l.map (·.sum)).map V.int)) := h4
  try dsimp only [List.set]
  walk_at "zz"
  refine z_maxL h5 (by simp) (fun m m1 m2 => ?_)
  rw [max_dgl cn m1 m2]
  exact k _ H4 (((Same.trans sm s1).trans s2).trans s4) cn.dg
theorem c_law_degree (L : Lw K mg) : Cal P w K mg base 2 "_law_degree" (sp1 fs_deg) [] := by
  obtain ⟨fd, F⟩ := L.d_law_degree
  exact ⟨⟨_, fd, ["a"], [], ok_law_degree L F, L.g_law_degree, F.kp, F.bindsN (fun _ _ _ _ _ _ us hl => match us, hl with | [_], _ => rfl), .nil⟩⟩
end
end T
set_option maxHeartbeats 4000000
namespace T
open PySem PySem.Spec PyProof.Rows L2 Z
open S15
def fs_isf (K : Frag) : F3 := fun a b c H Q _ => ∃ (f t : Addr) (n : Nat) (cc : Int) (F : Ex → Int) (N : Int) (B S B' S' : Nat), a = .ref f ∧ b = .int (n : Int) ∧ c = .ref t ∧ Fo K H f n F N B S ∧ La H t n cc F N B' S' ∧ S' ≤ 100000 ∧ n ≤ 1000 ∧ ∀ H', Same H H' → Q (.bl true) H'
theorem u_isf {K : Frag} {H : Hp} {Q : VK} {E : XK} {f t : Addr} {n : Nat} {cc : Int} {F : Ex → Int} {N : Int} {B S B' S' : Nat} (h1 : Fo K H f n F N B S) (h2 : La H t n cc F N B' S') (h3 : S' ≤ 100000) (h4 : n ≤ 1000) (k : ∀ H', Same H H' → Q (.bl true) H') : sp3 (fs_isf K) [.ref f, .int (n : Int), .ref t] H Q E := ⟨_, _, _, rfl, f, t, n, cc, F, N, B, S, B', S', rfl, rfl, rfl, h1, h2, h3, h4, k⟩
def fs_lmd (K : Frag) : F2 := fun a b H Q _ => ∃ (n : Nat) (t : Addr) (F : Ex → Int) (N : Int) (B S : Nat), a = .int (n : Int) ∧ b = .ref t ∧ La H t n 40 F N B S ∧ 1 ≤ n ∧ n ≤ 6 ∧ S ≤ 2000 ∧ ∀ x H', Same H H' → Fo K H' x n F N (B + 20) S → Q (.ref x) H'
theorem u_lmd {K : Frag} {H : Hp} {Q : VK} {E : XK} {n : Nat} {t : Addr} {F : Ex → Int} {N : Int} {B S : Nat} (h : La H t n 40 F N B S) (n1 : 1 ≤ n) (n6 : n ≤ 6) (hS : S ≤ 2000) (k : ∀ x H', Same H H' → Fo K H' x n F N (B + 20) S → Q (.ref x) H') : sp2 (fs_lmd K) [.int (n : Int), .ref t] H Q E := ⟨_, _, rfl, n, t, F, N, B, S, rfl, rfl, h, n1, n6, hS, k⟩
def fs_lsc : F3 := fun a b c H Q _ => ∃ (t : Addr) (n : Nat) (cc : Int) (F : Ex → Int) (N : Int) (B S : Nat) (u v : Int), a = .ref t ∧ b = .int u ∧ c = .int v ∧ La H t n cc F N B S ∧ S ≤ 100000 ∧ 1 ≤ u ∧ u ≤ 7 ∧ 1 ≤ v ∧ v ≤ 10 ∧ N * v ≤ 1000000 ∧ ∀ r H', Same H H' → La H' r n cc (fun e => F e * u) (N * v) (B + 3) S → Q (.ref r) H'
theorem u_lsc {H : Hp} {Q : VK} {E : XK} {t : Addr} {n : Nat} {cc : Int} {F : Ex → Int} {N : Int} {B S : Nat} {u v : Int} (h : La H t n cc F N B S) (hS : S ≤ 100000) (u1 : 1 ≤ u) (u7 : u ≤ 7) (v1 : 1 ≤ v) (v9 : v ≤ 10) (hN : N * v ≤ 1000000) (k : ∀ r H', Same H H' → La H' r n cc (fun e => F e * u) (N * v) (B + 3) S → Q (.ref r) H') : sp3 fs_lsc [.ref t, .int u, .int v] H Q E := ⟨_, _, _, rfl, t, n, cc, F, N, B, S, u, v, rfl, rfl, rfl, h, hS, u1, u7, v1, v9, hN, k⟩
theorem lk_mapn {α β : Type} {L : List (Ex × α)} {g : Ex × α → β} {e : Ex} (h : lkT L e = none) : lkT (L.map fun p => (p.1, g p)) e = none := by
  refine lkT_none.mpr fun p m => ?_
  obtain ⟨q, mq, rfl⟩ := List.mem_map.mp m
  exact lkT_none.mp h q mq
theorem nd_map {α β : Type} {L : List (Ex × α)} {g : Ex × α → β} (h : Nd L) : Nd (L.map fun p => (p.1, g p)) := by
  unfold Nd
  rw [List.map_map]
  exact h
theorem vl_mulr {u : Int} {e : Ex} : ∀ {L : List (Ex × Int)}, vl (L.map fun p => (p.1, p.2 * u)) e = vl L e * u
  | [] => by simp [vl]
  | p :: r => by
    show (if p.1 = e then p.2 * u else 0) + vl (r.map fun p => (p.1, p.2 * u)) e = _
    rw [vl_mulr, vl]
    split <;> grind
theorem b20 {N : Int} (h0 : 0 < N) (h : N ≤ 1000000) : Bits 20 N := by
  unfold Bits
  have : (2 : Nat) ^ 20 = 1048576 := by decide
  omega
theorem frz_ne {H : Hp} {d D : Addr} {T : List (Ex × Int)} (h : Frz H d V.int T) (hD : H D = none) : d ≠ D := fun z => by
  obtain ⟨o, e⟩ := h
  rw [z, hD] at e
  cases e
theorem tup_ne {H : Hp} {t D : Addr} {xs : List V} (h : H t = some (.tup xs)) (hD : H D = none) : t ≠ D := fun z => by
  rw [z, hD] at h
  cases h
local macro_rules | `(tactic| walk_at "z") => `(tactic| with_reducible refine z_fldS ?_)
local macro_rules | `(tactic| walk_at "z") => `(tactic| ((with_reducible refine' z_fdt ?zc1 ?zc2 ?zl2 ?_); (case zc1 => exact Lw.cl_Ratio (by assumption)); (case zc2 => exact Lw.na_Ratio_top (by assumption)); (case zl2 => walk_at "up")))
local macro_rules | `(tactic| walk_at "z") => `(tactic| ((with_reducible refine' z_fdb ?zc1 ?zc2 ?zl2 ?_); (case zc1 => exact Lw.cl_Ratio (by assumption)); (case zc2 => exact Lw.na_Ratio_bottom (by assumption)); (case zl2 => walk_at "up")))
local macro_rules | `(tactic| walk_at "z") => `(tactic| ((with_reducible refine' z_isTup ?zl1 ?_); (case zl1 => walk_at "up")))
local macro_rules | `(tactic| walk_at "z") => `(tactic| ((with_reducible refine' z_isR ?zl1 ?zl2 ?zl3 ?_); (case zl1 => exact Lw.in_Ratio (by assumption)); (case zl2 => exact Lw.kt_Ratio_Ratio (by assumption)); (case zl3 => walk_at "up")))
local macro_rules | `(tactic| walk_at "z") => `(tactic| ((with_reducible refine' z_isFm ?zl1 ?zl2 ?zl3 ?_); (case zl1 => exact Lw.in_Form (by assumption)); (case zl2 => exact Lw.kt_Form_Form (by assumption)); (case zl3 => walk_at "up")))
local macro_rules | `(tactic| walk_at "z") => `(tactic| with_reducible refine u_who ?_)
local macro_rules | `(tactic| walk_at "z") => `(tactic| with_reducible refine u_gcd ?_)
local macro_rules | `(tactic| walk_at "up") => `(tactic| first
  | assumption
  | (refine' IsR.mono (by assumption) ?zup; case zup => walk_at "up")
  | (refine' IsE.mono (by assumption) ?zup; case zup => walk_at "up")
  | (refine' Same.at (by assumption) ?zup; case zup => walk_at "up")
  | (refine' SqL.of ?zup; case zup => walk_at "up")
  | (refine' L2.Same.seq (by assumption) ?zup; case zup => walk_at "up"))
local macro_rules | `(tactic| walk_at "z") => `(tactic| first
  | ((with_reducible refine' z_var ?zvh ?_); (case zvh => exact rfl))
  | with_reducible refine z_c ?_
  | with_reducible refine z_cons ?_
  | with_reducible refine z_nil ?_
  | with_reducible refine z_op ?_
  | with_reducible refine z_nx ?_
  | with_reducible refine z_seq ?_
  | with_reducible refine z_asg ?_
  | with_reducible refine z_asgG ?_
  | with_reducible refine z_call ?_
  | with_reducible refine z_sq0 ?_
  | with_reducible refine z_sq1 ?_
  | with_reducible refine z_ifS ?_
  | with_reducible refine z_test ?_
  | with_reducible refine z_tb ?_
  | with_reducible refine z_bl ?_
  | with_reducible refine z_blI ?_
  | with_reducible refine z_ret ?_
  | with_reducible refine z_rt ?_
  | with_reducible refine z_T ?_
  | with_reducible refine z_F ?_
  | with_reducible refine z_add ?_
  | with_reducible refine z_sub ?_
  | with_reducible refine z_neg ?_
  | with_reducible refine z_un ?_
  | with_reducible refine z_eqI ?_
  | with_reducible refine z_neI ?_
  | with_reducible refine z_lt ?_
  | with_reducible refine z_le ?_
  | with_reducible refine z_gt ?_
  | with_reducible refine z_ge ?_
  | with_reducible refine z_not ?_
  | with_reducible refine z_and ?_
  | with_reducible refine z_or ?_
  | with_reducible refine z_andV ?_
  | with_reducible refine z_orV ?_
  | with_reducible refine z_notV ?_
  | with_reducible refine z_if ?_
  | with_reducible refine z_cb ?_
  | with_reducible refine z_int1 ?_
  | with_reducible refine z_intb ?_
  | with_reducible refine z_abs ?_
  | with_reducible refine z_gcd ?_
  | with_reducible refine z_isi_ii ?_
  | with_reducible refine z_isi_ib ?_
  | with_reducible refine z_next ?_
  | with_reducible refine z_drop ?_
  | with_reducible refine z_par ?_
  | with_reducible refine z_par2 ?_
  | with_reducible refine z_tupN ?_
  | with_reducible refine z_lstN ?_
  | ((with_reducible refine' z_nt ?zl1 ?_); (case zl1 => exact Nat.le_of_ble_eq_true rfl); intro p H' hp hs he)
  | ((with_reducible refine' z_gtup ?zl1 ?zl2 ?_); (case zl1 => walk_at "up"); (case zl2 => exact rfl))
  | with_reducible refine z_bk ?_
  | with_reducible refine z_ct ?_
  | with_reducible refine z_break ?_
  | with_reducible refine z_cont ?_
  | with_reducible refine z_retN ?_
  | with_reducible refine z_nn ?_
  | with_reducible refine z_mk ?_
  | with_reducible refine z_gn ?_
  | with_reducible refine z_gcons ?_
  | with_reducible refine z_gnil ?_
  | with_reducible refine z_mt ?_
  | with_reducible refine z_mko ?_
  | with_reducible refine z_for2 ?_
  | with_reducible refine z_ownI ?_
  | ((with_reducible refine' z_lenL ?zl1 ?_); (case zl1 => walk_at "up"))
  | ((with_reducible refine' z_ixT ?zl1 ?zl2 ?_); (case zl1 => walk_at "up"); (case zl2 => exact rfl))
  | ((with_reducible refine' z_mulL ?zl1 ?zl2 ?_); (case zl1 => omega); (case zl2 => omega))
  | ((with_reducible refine' z_mulR ?zl1 ?zl2 ?_); (case zl1 => omega); (case zl2 => omega))
  | ((with_reducible refine' z_divS ?zl1 ?zl2 ?_); (case zl1 => omega); (case zl2 => omega))
  | ((with_reducible refine' z_mulW ?zl1 ?zl2 ?zl3 ?zl4 ?_); (case zl1 => omega); (case zl2 => omega); (case zl3 => omega); (case zl4 => omega))
  | ((with_reducible refine' z_divW ?zl1 ?zl2 ?_); (case zl1 => omega); (case zl2 => omega)))
local macro_rules | `(tactic| walk_at "zz") => `(tactic| repeat (walk_at "z"))
local macro_rules | `(tactic| walk_at "z") => `(tactic| with_reducible refine z_lstN ?_)
local macro_rules | `(tactic| walk_at "z") => `(tactic| with_reducible refine z_p6 ?_)
local macro_rules | `(tactic| walk_at "z") => `(tactic| with_reducible refine z_p12 ?_)
local macro_rules | `(tactic| walk_at "z") => `(tactic| with_reducible refine z_p13 ?_)
local macro_rules | `(tactic| walk_at "z") => `(tactic| with_reducible refine z_calln ?_)
local macro_rules | `(tactic| walk_at "z") => `(tactic| with_reducible refine z_xfS ?_)
local macro_rules | `(tactic| walk_at "z") => `(tactic| with_reducible refine z_lcS ?_)
local macro_rules | `(tactic| walk_at "z") => `(tactic| with_reducible refine z_lcRS ?_)
local macro_rules | `(tactic| walk_at "z") => `(tactic| with_reducible refine z_lcZS ?_)
local macro_rules | `(tactic| walk_at "z") => `(tactic| with_reducible refine z_foS ?_)
local macro_rules | `(tactic| walk_at "z") => `(tactic| with_reducible refine z_for1 ?_)
local macro_rules | `(tactic| walk_at "z") => `(tactic| with_reducible refine z_tsl ?_)
local macro_rules | `(tactic| walk_at "z") => `(tactic| with_reducible refine z_np ?_)
local macro_rules | `(tactic| walk_at "z") => `(tactic| with_reducible refine z_pt ?_)
local macro_rules | `(tactic| walk_at "z") => `(tactic| with_reducible refine z_pti ?_)
local macro_rules | `(tactic| walk_at "z") => `(tactic| with_reducible refine z_catI ?_)
local macro_rules | `(tactic| walk_at "z") => `(tactic| with_reducible refine z_isNI ?_)
local macro_rules | `(tactic| walk_at "z") => `(tactic| with_reducible refine z_isNN ?_)
local macro_rules | `(tactic| walk_at "z") => `(tactic| with_reducible refine z_notNI ?_)
local macro_rules | `(tactic| walk_at "z") => `(tactic| with_reducible refine z_notNN ?_)
local macro_rules | `(tactic| walk_at "z") => `(tactic| with_reducible refine z_gsub ?_)
local macro_rules | `(tactic| walk_at "z") => `(tactic| with_reducible refine z_isNb ?_)
local macro_rules | `(tactic| walk_at "z") => `(tactic| with_reducible refine z_notNb ?_)
local macro_rules | `(tactic| walk_at "z") => `(tactic| ((with_reducible refine' z_nlR ?zl1 ?_); (case zl1 => exact Nat.le_of_ble_eq_true rfl); intro p H' hp hs he))
local macro_rules | `(tactic| walk_at "z") => `(tactic| ((with_reducible refine' z_repR ?zl1 ?zl2 ?_); (case zl1 => omega); (case zl2 => omega)))
local macro_rules | `(tactic| walk_at "z") => `(tactic| ((with_reducible refine' z_repL ?zl1 ?zl2 ?_); (case zl1 => omega); (case zl2 => omega)))
local macro_rules | `(tactic| walk_at "z") => `(tactic| ((with_reducible refine' z_lenLst ?zl1 ?_); (case zl1 => walk_at "up")))
local macro_rules | `(tactic| walk_at "z") => `(tactic| ((with_reducible refine' z_cat ?zl1 ?zl2 ?zl3 ?_); (case zl1 => walk_at "up"); (case zl2 => walk_at "up"); (case zl3 => (simp only [List.length_map, List.length_cons, List.length_nil, List.length_append, List.length_replicate]; omega)); intro p H' hp hs he))
local macro_rules | `(tactic| walk_at "z") => `(tactic| with_reducible refine z_sfl ?_)
local macro_rules | `(tactic| walk_at "z") => `(tactic| with_reducible refine z_lcES ?_)
local macro_rules | `(tactic| walk_at "z") => `(tactic| with_reducible refine z_lcMS ?_)
local macro_rules | `(tactic| walk_at "z") => `(tactic| with_reducible refine z_foES ?_)
local macro_rules | `(tactic| walk_at "z") => `(tactic| with_reducible refine z_fo3S ?_)
local macro_rules | `(tactic| walk_at "z") => `(tactic| with_reducible refine z_sta ?_)
local macro_rules | `(tactic| walk_at "z") => `(tactic| with_reducible refine z_sta1 ?_)
local macro_rules | `(tactic| walk_at "z") => `(tactic| with_reducible refine z_lcTS ?_)
local macro_rules | `(tactic| walk_at "z") => `(tactic| with_reducible refine z_foTS ?_)
local macro_rules | `(tactic| walk_at "z") => `(tactic| with_reducible refine z_revTS ?_)
local macro_rules | `(tactic| walk_at "z") => `(tactic| with_reducible refine z_max2 ?_)
local macro_rules | `(tactic| walk_at "z") => `(tactic| ((with_reducible refine' z_fldt ?zc1 ?zc2 ?zl1 ?zl2 ?_); (case zc1 => exact Lw.cl_Ratio (by assumption)); (case zc2 => exact Lw.na_Ratio_top (by assumption)); (case zl1 => exact rfl); (case zl2 => walk_at "up")))
local macro_rules | `(tactic| walk_at "z") => `(tactic| ((with_reducible refine' z_fldb ?zc1 ?zc2 ?zl1 ?zl2 ?_); (case zc1 => exact Lw.cl_Ratio (by assumption)); (case zc2 => exact Lw.na_Ratio_bottom (by assumption)); (case zl1 => exact rfl); (case zl2 => walk_at "up")))
local macro_rules | `(tactic| walk_at "z") => `(tactic| ((with_reducible refine' u_mtF ?zl1 ?_); (case zl1 => walk_at "up")))
local macro_rules | `(tactic| walk_at "z") => `(tactic| ((with_reducible refine' z_ixLst ?zl1 ?zl2 ?_); (case zl1 => walk_at "up"); (case zl2 => exact rfl)))
local macro_rules | `(tactic| walk_at "z") => `(tactic| with_reducible refine z_yes ?_)
local macro_rules | `(tactic| walk_at "z") => `(tactic| with_reducible refine z_if1 ?_)
local macro_rules | `(tactic| walk_at "z") => `(tactic| with_reducible refine z_dg ?_)
local macro_rules | `(tactic| walk_at "z") => `(tactic| with_reducible refine z_di ?_)
local macro_rules | `(tactic| walk_at "z") => `(tactic| with_reducible refine z_dp ?_)
local macro_rules | `(tactic| walk_at "z") => `(tactic| with_reducible refine z_foKS ?_)
local macro_rules | `(tactic| walk_at "z") => `(tactic| with_reducible refine z_foPS ?_)
local macro_rules | `(tactic| walk_at "z") => `(tactic| with_reducible refine z_foTS ?_)
local macro_rules | `(tactic| walk_at "z") => `(tactic| with_reducible refine z_lcKS ?_)
local macro_rules | `(tactic| walk_at "z") => `(tactic| with_reducible refine z_lcTS ?_)
local macro_rules | `(tactic| walk_at "z") => `(tactic| with_reducible refine z_dcTS ?_)
local macro_rules | `(tactic| walk_at "z") => `(tactic| with_reducible refine z_dcPS ?_)
local macro_rules | `(tactic| walk_at "z") => `(tactic| with_reducible refine z_fixV ?_)
local macro_rules | `(tactic| walk_at "z") => `(tactic| with_reducible refine z_mkk ?_)
local macro_rules | `(tactic| walk_at "z") => `(tactic| with_reducible refine z_sta ?_)
local macro_rules | `(tactic| walk_at "z") => `(tactic| with_reducible refine z_sta1 ?_)
local macro_rules | `(tactic| walk_at "z") => `(tactic| with_reducible refine z_ckw ?_)
local macro_rules | `(tactic| walk_at "z") => `(tactic| with_reducible refine z_cmpD ?_)
local macro_rules | `(tactic| walk_at "z") => `(tactic| with_reducible refine z_pk1 ?_)
local macro_rules | `(tactic| walk_at "z") => `(tactic| with_reducible refine z_tBD ?_)
local macro_rules | `(tactic| walk_at "z") => `(tactic| ((with_reducible refine' z_fl ?zc1 ?zc2 ?zl1 ?zl2 ?_); (case zc1 => exact Lw.cl_Form (by assumption)); (case zc2 => exact Lw.na_Form_letters (by assumption)); (case zl1 => exact rfl); (case zl2 => walk_at "up")))
local macro_rules | `(tactic| walk_at "z") => `(tactic| ((with_reducible refine' z_ft ?zc1 ?zc2 ?zl1 ?zl2 ?_); (case zc1 => exact Lw.cl_Form (by assumption)); (case zc2 => exact Lw.na_Form_terms (by assumption)); (case zl1 => exact rfl); (case zl2 => walk_at "up")))
local macro_rules | `(tactic| walk_at "z") => `(tactic| ((with_reducible refine' z_fd ?zc1 ?zc2 ?zl1 ?zl2 ?_); (case zc1 => exact Lw.cl_Form (by assumption)); (case zc2 => exact Lw.na_Form_degree (by assumption)); (case zl1 => exact rfl); (case zl2 => walk_at "up")))
theorem sameFF {H H1 H2 : Hp} (h : Same H1 H2) (e : Same H H1) : Same H H2 := e.trans h
local macro_rules | `(tactic| walk_at "sm") => `(tactic| first
  | assumption
  | exact fun _ _ h => h
  | (refine' sameFF (by assumption) ?zsm; case zsm => walk_at "sm"))
local macro_rules | `(tactic| walk_at "up") => `(tactic| first
  | assumption
  | (with_reducible refine' IsR.mono (by assumption) ?zup; case zup => walk_at "up")
  | (with_reducible refine' Fr.mono (by assumption) ?zup; case zup => walk_at "up")
  | (with_reducible refine' IsFm.mono (by assumption) ?zup; case zup => walk_at "up")
  | (with_reducible refine' Frz.mono (by assumption) ?zup; case zup => walk_at "up")
  | (with_reducible refine' Fo.mono (by assumption) ?zup; case zup => walk_at "up")
  | (with_reducible refine' La.mono (by assumption) ?zup; case zup => walk_at "up")
  | (with_reducible refine' Ta.mono (by assumption) ?zup; case zup => walk_at "up")
  | (with_reducible refine' PrL.mono (by assumption) ?zup; case zup => walk_at "up")
  | (with_reducible refine' EnA.mono (by assumption) ?zup; case zup => walk_at "up")
  | (with_reducible refine' Srt.mono (by assumption) ?zup; case zup => walk_at "up")
  | (with_reducible refine' Same.at (by assumption) ?zup; case zup => walk_at "up")
  | fail)
section
variable {P : Program} {w : World} {K : Frag} {mg : Str → Option Value} {base : Heap}
theorem ok_law_is_form (L : Lw K mg) {fd : FuncData} (F : FunD K "_law_is_form" "_law_is_form" (defArgs s_law_is_form) (defBody s_law_is_form) (defScope s_law_is_form) (df_law_is_form.dvs K) (df_law_is_form.kws K) (He.fAd K ("_law_is_form", none)) fd) : FnOk P w K mg base (L2N.CX P w) 3 (He.fAd K ("_law_is_form", none)) fd (["x", "n", "a"] : List Str) (sp3 (fs_isf K)) := by
  refine FunD.ok F sc_law_is_form len3 (fun cdv A outer s H vs Q E hr h => ?_)
  obtain ⟨a, b, c, rfl, h⟩ := h
  refine ⟨_, (pss_cons (ps_if (PW.pt (pw_or (pt_not (pt_val (pe_callB (callK rIsi (K := K) rfl call_isi) (by rfl) L.f_isinstance (by decide +kernel) (pa_cons (pv 0) (pa_cons (pe_cls L.g_Form) pa_nil))))) (pw_or (pt_not (pt_val (pe_c (c_law_whole (K := K) L) hr (by decide) (L2N.takes_of rfl rfl rfl rfl) (pa_cons (pe_fld (pv 0) rfl) pa_nil)))) (pw_or1 (pt_cmpR op_ne (pe_fld (pv 0) rfl) (pv 1) (nomark _)))))) (pss_one (ps_ret pe_bl)) pss_nil)
    (pss_cons (ps_set (i := 3) sc_law_is_form.nd rfl (by first | exact Or.inl rfl | exact Or.inr rfl) (pe_c (c_law_in_order (K := K) L) hr (by decide) (L2N.takes_of rfl rfl rfl rfl) (pa_cons (pv 2) pa_nil)))
    (pss_cons (ps_if (PW.pt (pw_or (pt_not (pt_val (pe_callB (callK rIsi (K := K) rfl call_isi) (by rfl) L.f_isinstance (by decide +kernel) (pa_cons (pe_fld (pv 0) rfl) (pa_cons (pe_ty "tuple" (by rfl) L.f_tuple (by decide +kernel)) pa_nil))))) (pw_or1 (pt_cmpR op_ne (pe_callB (callK rLen1 (K := K) rfl o_len) (by rfl) L.f_len (by decide +kernel) (pa_cons (pe_fld (pv 0) rfl) pa_nil)) (pe_callB (callK rLen1 (K := K) rfl o_len) (by rfl) L.f_len (by decide +kernel) (pa_cons (pv 3) pa_nil)) (nomark _))))) (pss_one (ps_ret pe_bl)) pss_nil)
    (pss_cons (ps_for (passes_of rfl) rfl (pi_range1 (by rfl) L.f_range (pa_cons (pe_callB (callK rLen1 (K := K) rfl o_len) (by rfl) L.f_len (by decide +kernel) (pa_cons (pv 3) pa_nil)) pa_nil)) (pg_name (i := 4) sc_law_is_form.nd rfl (by first | exact Or.inl rfl | exact Or.inr rfl)) (pss_cons (ps_set (i := 5) sc_law_is_form.nd rfl (by first | exact Or.inl rfl | exact Or.inr rfl) (pe_ix (ix_seqK (K := K) rfl) (pe_fld (pv 0) rfl) (pv 4) (fun _ _ => rfl)))
    (pss_cons (ps_if (PW.pt (pw_or (pt_not (pt_val (pe_callB (callK rIsi (K := K) rfl call_isi) (by rfl) L.f_isinstance (by decide +kernel) (pa_cons (pv 5) (pa_cons (pe_ty "tuple" (by rfl) L.f_tuple (by decide +kernel)) pa_nil))))) (pw_or1 (pt_cmpR op_ne (pe_callB (callK rLen1 (K := K) rfl o_len) (by rfl) L.f_len (by decide +kernel) (pa_cons (pv 5) pa_nil)) pe_int (nomark _))))) (pss_one (ps_ret pe_bl)) pss_nil)
    (pss_cons (ps_if (pt_not (pt_val (pe_c (c_law_is_row (K := K) L) hr (by decide) (L2N.takes_of rfl rfl rfl rfl) (pa_cons (pe_ix (ix_seqK (K := K) rfl) (pv 5) pe_int (fun _ _ => rfl)) (pa_cons (pe_ix (ix_seqK (K := K) rfl) (pv 3) (pv 4) (fun _ _ => rfl)) pa_nil))))) (pss_one (ps_ret pe_bl)) pss_nil)
    (pss_one (ps_if (pt_not (pt_val (pe_c (c_law_is_ratio (K := K) L) hr (by decide) (L2N.takes_of rfl rfl rfl rfl) (pa_cons (pe_ix (ix_seqK (K := K) rfl) (pv 5) pe_int (fun _ _ => rfl)) (pa_cons (pe_dget (hu1 hr) (pe_ix (ix_seqK (K := K) rfl) (pv 2) pe_int (fun _ _ => rfl)) (pe_ix (ix_seqK (K := K) rfl) (pv 3) (pv 4) (fun _ _ => rfl)) (fun _ _ => rfl)) (pa_cons (pe_ix (ix_seqK (K := K) rfl) (pv 2) pe_int (fun _ _ => rfl)) pa_nil)))))) (pss_one (ps_ret pe_bl)) pss_nil))))))
    (pss_cons (ps_set (i := 6) sc_law_is_form.nd rfl (by first | exact Or.inl rfl | exact Or.inr rfl) (pe_callB (callK rMax (K := K) rfl (cr_max rfl)) (by rfl) L.f_max (by decide +kernel) (pa_cons (pe_op o_cat (pe_lst (pa_cons (pe_un o_neg pe_int) pa_nil)) (pe_lc (own := [("ex", 7)]) (g := (gName 7)) (tt := tYes) rfl sc_law_is_form.nd (pi_listK (K := K) rfl (pv 3)) (blkOk_by (N := ["x", "n", "a", "rows", "k", "pair", "high", "ex"]) (sc := defScope s_law_is_form) (by decide +kernel)) (fun _ _ _ _ _ => pg_name (i := 7) sc_law_is_form.nd rfl (Or.inl rfl)) (fun _ _ _ _ _ => pts_nil) (fun _ _ _ _ _ => (pe_callB (callK rSumS (K := K) rfl (cr_sumS rfl)) (by rfl) L.f_sum (by decide +kernel) (pa_cons (pv 7) pa_nil))))) pa_nil)))
    (pss_one (ps_ret (pe_and (pe_c (c_law_whole (K := K) L) hr (by decide) (L2N.takes_of rfl rfl rfl rfl) (pa_cons (pe_fld (pv 0) rfl) pa_nil)) (pe_one (pe_cmpR op_eq (pe_fld (pv 0) rfl) (pv 6) (nomark _))))))))))), ?_⟩
  rw [show L2.start (["x", "n", "a", "rows", "k", "pair", "high", "ex"] : List Str) [a, b, c] = [some a, some b, some c, none, none, none, none, none] from rfl]
  obtain ⟨f, t, n, cc, F, N, B, S, B', S', rfl, rfl, rfl, hF, hLa, hS, hn, k⟩ := h
  obtain ⟨p, xs, R, hfm, hp, hpl, hs, N0, bN, bF, lR⟩ := id hF
  obtain ⟨o, d, T, ht, ⟨hFz, nd, hk, lT⟩, o0, dv, _, N1, hv⟩ := id hLa
  try dsimp only [List.set]
  walk_at "zz"
  refine z_d2 (fun c => ?_) (fun c => absurd rfl c)
  try dsimp only [List.set]
  walk_at "zz"
  refine u_ino hLa hS (fun D H1 ys l s1 h1 hky cn ll => ?_)
  have el : l = ks R := cn.uniq hs.cn fun e => Iff.rfl
  have lxs : xs.length = l.length := by
    rw [el]
    unfold ks
    rw [List.length_map]
    exact hpl.1
  have hfm1 := hfm.mono s1
  have hp1 := s1 _ _ hp
  try dsimp only [List.set]
  walk_at "zz"
  refine z_lenT hp1 ?_
  try dsimp only [List.set]
  walk_at "zz"
  refine z_d2 (fun c => ?_) (fun c => absurd (by rw [hky.1, lxs]) c)
  try dsimp only [List.set]
  walk_at "zz"
  rw [hky.1]
  refine z_foR (by omega) (by omega) (fun i σ Hi => ∃ o4 o5 o6 o7, σ = [some (V.ref f), some (V.int (n : Int)), some (V.ref t), some (V.ref D), o4, o5, o6, o7] ∧ Same H1 Hi) ⟨_, _, _, _, rfl, fun _ _ h => h⟩ (fun i σ Hi hi I => ?_) (fun σ Hi I => ?_)
  · obtain ⟨o4, o5, o6, o7, rfl, sI⟩ := I
    have li : i < l.length := by omega
    have hfmi := hfm1.mono sI
    have hpi := sI _ _ hp1
    have hti := sI _ _ (s1 _ _ ht)
    have h1i := sI _ _ h1
    have lxi : i < xs.length := by omega
    obtain ⟨⟨e, r, y⟩, hR, tt, q, ex, htt, hq, hfr⟩ := (hpl.mono (Same.trans s1 sI)).at (List.getElem?_eq_getElem lxi)
    have hy := hs.tel _ (List.mem_of_getElem? hR)
    have hsh := (hs.en _ (List.mem_of_getElem? hR)).1
    dsimp only at htt hq hfr hy hsh
    have hle : l[i]? = some e := by
      rw [el]
      unfold ks
      rw [List.getElem?_map, hR]
      rfl
    obtain ⟨q2, hy2, hq2⟩ := (hky.mono sI).at hle
    have nz : F e ≠ 0 := (cn.mem e).mp (List.mem_of_getElem? hle)
    have vz := (la_nz o0 N0 hv e).mpr nz
    have hlk : ∃ v, lkT T e = some v ∧ v = vl T e := by
      rw [vl_lk nd] at vz ⊢
      cases h9 : lkT T e with
      | none =>
        rw [h9] at vz
        exact absurd rfl vz
      | some v => exact ⟨v, rfl, rfl⟩
    obtain ⟨v, hlk, ev⟩ := hlk
    try dsimp only [List.set]
    walk_at "zz"
    refine z_ixT hpi (v := .ref tt) (atI_nat (by rw [List.getElem?_eq_getElem lxi, ex])) ?_
    try dsimp only [List.set]
    walk_at "zz"
    refine z_lenT htt ?_
    try dsimp only [List.set]
    walk_at "zz"
    refine z_d2 (fun c => ?_) (fun c => absurd rfl c)
    try dsimp only [List.set]
    walk_at "zz"
    refine z_ixLst h1i (v := .ref q2) (atI_nat hy2) ?_
    try dsimp only [List.set]
    walk_at "zz"
    refine ⟨_, _, rfl, q, q2, e, rfl, rfl, hq, hq2, by rw [hsh.1]; exact hn, fun H2 s2 => ?_⟩
    have htt2 := s2 _ _ htt
    have hti2 := s2 _ _ hti
    have hq22 := s2 _ _ hq2
    have hF2 := hFz.mono (Same.trans (Same.trans s1 sI) s2)
    try dsimp only [List.set]
    walk_at "zz"
    refine z_ixLst (s2 _ _ h1i) (v := .ref q2) (atI_nat hy2) ?_
    try dsimp only [List.set]
    walk_at "zz"
    refine z_dgf hF2 hq22 hlk ?_
    try dsimp only [List.set]
    walk_at "zz"
    refine ⟨_, _, _, rfl, r, y, N, v, o, rfl, rfl, rfl, hfr.mono s2, N0, o0, by have := Int.le_of_dvd N0 dv; omega, by rw [hy, ev, hv], ?_⟩
    try dsimp only [List.set]
    walk_at "zz"
    exact ⟨_, _, _, _, rfl, Same.trans sI s2⟩
  obtain ⟨o4, o5, o6, o7, rfl, sI⟩ := I
  have hfmi := hfm1.mono sI
  have h1i := sI _ _ h1
  try dsimp only [List.set]
  walk_at "zz"
  rename_i pm Hm hpm sm em
  refine z_lcVF (fun k => V.int ((l.getD k []).sum)) (sm _ _ h1i) (by rw [hky.1]; omega) (fun k x H2 Nx hx s2 cc => ⟨rfl, ?_⟩) (fun D2 H2 hD2 s2 h2 => ?_)
  · have lk : k < l.length := by
      rw [← hky.1]
      exact (List.getElem?_eq_some_iff.mp hx).1
    obtain ⟨q, rfl, hq⟩ := hky.2 k x _ hx (List.getElem?_eq_getElem lk)
    have hq2 := s2 _ _ (sm _ _ (sI _ _ hq))
    try dsimp only [List.set]
    walk_at "zz"
    refine z_sumT hq2 ?_
    have := cc H2 (fun _ _ h => h)
    rw [List.getD_eq_getElem?_getD, List.getElem?_eq_getElem lk] at this
    exact this
  rw [hky.1, sums_list] at h2
  have em2 := s2 _ _ em
  have l1 : ((l.map (·.sum)).map V.int).length ≤ 100000 := by
    rw [List.length_map, List.length_map]
    omega
  refine z_cat em2 h2 (by show 1 + _ ≤ _; omega) (fun p4 H4 hp4 s4 h4 => ?_)
  have h5 : H4 p4 = some (.lst (((-1 : Int) :: l.map (·.sum)).map V.int)) := h4
  have hfm4 := (hfmi.mono sm).mono (Same.trans s2 s4)
  try dsimp only [List.set]
  walk_at "zz"
  refine z_maxL h5 (by simp) (fun m m1 m2 => ?_)
  have em3 := max_dgl cn m1 m2
  try dsimp only [List.set]
  walk_at "zz"
  rw [em3, el, decide_eq_true rfl]
  exact k H4 (Same.trans (Same.trans (Same.trans s1 sI) sm) (Same.trans s2 s4))
theorem c_law_is_form (L : Lw K mg) : Cal P w K mg base 3 "_law_is_form" (sp3 (fs_isf K)) [] := by
  obtain ⟨fd, F⟩ := L.d_law_is_form
  exact ⟨⟨_, fd, ["x", "n", "a"], [], ok_law_is_form L F, L.g_law_is_form, F.kp, F.bindsN (fun _ _ _ _ _ _ us hl => match us, hl with | [_, _, _], _ => rfl), .nil⟩⟩
theorem ok_law_made (L : Lw K mg) {fd : FuncData} (F : FunD K "_law_made" "_law_made" (defArgs s_law_made) (defBody s_law_made) (defScope s_law_made) (df_law_made.dvs K) (df_law_made.kws K) (He.fAd K ("_law_made", none)) fd) : FnOk P w K mg base (L2N.CX P w) 7 (He.fAd K ("_law_made", none)) fd (["n", "a"] : List Str) (sp2 (fs_lmd K)) := by
  refine FunD.ok F sc_law_made len2 (fun cdv A outer s H vs Q E hr h => ?_)
  obtain ⟨a, b, rfl, h⟩ := h
  refine ⟨_, (pss_one (ps_ret (pe_mk (c1_FormD_initD (K := K) L) hr (by decide) (L2N.takes_of rfl rfl rfl rfl) (pa_cons (pv 0) (pa_cons (pe_lc (own := [("ex", 2)]) (g := (gName 2)) (tt := tYes) rfl sc_law_made.nd (pi_keysT (pe_ix (ix_seqK (K := K) rfl) (pv 1) pe_int (fun _ _ => rfl))) (blkOk_by (N := ["n", "a", "ex"]) (sc := defScope s_law_made) (by decide +kernel)) (fun _ _ _ _ _ => pg_name (i := 2) sc_law_made.nd rfl (Or.inl rfl)) (fun _ _ _ _ _ => pts_nil) (fun _ _ _ _ _ => (pe_tup (pa_cons (pv 2) (pa_cons (pe_mk (c_RatioD_initD (K := K) L) hr (by decide) takesF (pa_cons (pe_dget (hu1 hr) (pe_ix (ix_seqK (K := K) rfl) (pv 1) pe_int (fun _ _ => rfl)) (pv 2) (fun _ _ => rfl)) (pa_cons (pe_ix (ix_seqK (K := K) rfl) (pv 1) pe_int (fun _ _ => rfl)) pa_nil))) pa_nil))))) pa_nil))))), ?_⟩
  rw [show L2.start (["n", "a", "ex"] : List Str) [a, b] = [some a, some b, none] from rfl]
  obtain ⟨n, t, F, N, B, S, rfl, rfl, hLa, n1, n6, hS, k⟩ := h
  obtain ⟨o, d, T, ht, ⟨hFz, nd, hk, lT⟩, o0, dv, N0, N1, hv⟩ := id hLa
  have oN := Int.le_of_dvd N0 dv
  try dsimp only [List.set]
  walk_at "zz"
  refine z_lcKW hFz (fun i H ys => ∃ Ri : List En, PrL K H ys Ri o ∧ nu Ri = T.take i ∧ EnA K H n Ri o) (fun i H H' ys s p => ?_) (fun i H ys p => ?_) (by omega) (fun H => ⟨[], PrL.nil, rfl, fun p m => nomatch m⟩) (fun i e y q H1 ys Nx Mx hi hq s1 p cN cM => ?_) (fun D H1 ys hD s1 h1 p => ?_)
  · obtain ⟨Ri, p1, p2, p4⟩ := p
    exact ⟨Ri, p1.monoD (SameD.ofN s), p2, p4.monoD (SameD.ofN s)⟩
  · obtain ⟨Ri, p1, p2, p4⟩ := p
    have := congrArg List.length p2
    unfold nu at this
    rw [List.length_map, List.length_take] at this
    rw [p1.1]
    omega
  · have hlk := lkT_mem nd (List.mem_of_getElem? hi)
    have hsh := (hk _ (List.mem_of_getElem? hi)).1
    dsimp only at hlk hsh
    have hF1 := hFz.mono s1
    have ht1 := s1 _ _ ht
    refine ⟨rfl, ?_⟩
    try dsimp only [List.set]
    walk_at "zz"
    refine z_dgf hF1 hq hlk ?_
    try dsimp only [List.set]
    walk_at "zz"
    refine u_mkF o0 ((b20 o0 (by omega)).up (by decide)) rfl (fun r H2 s2 f2 => ?_)
    try dsimp only [List.set]
    walk_at "zz"
    rename_i tt H3 htt s3 et
    obtain ⟨Ri, p1, p2, p4⟩ := p
    refine cN _ _ (s2.trans s3) ⟨Ri ++ [(e, r, y)], (p1.mono (s2.trans s3)).snoc ⟨tt, q, rfl, et, s3 _ _ (s2 _ _ hq), f2.mono s3⟩, ?_, fun p m => ?_⟩
    · rw [take_succ' hi, ← p2]
      unfold nu
      rw [List.map_append]
      rfl
    · rcases List.mem_append.mp m with m | m
      · exact p4.mono (s2.trans s3) p m
      · rw [List.mem_singleton.mp m]
        exact ⟨hsh, f2.mono s3⟩
  obtain ⟨R2, p1, p2, p4⟩ := p
  rw [List.take_length] at p2
  have lR2 : R2.length = T.length := by
    have := congrArg List.length p2
    unfold nu at this
    rw [List.length_map] at this
    exact this
  try dsimp only [List.set]
  walk_at "zz"
  refine u_mk0 (F := vl T) ⟨h1, p1, ?_, p4, fun p m x mx => ?_, n1, n6, by omega, o0, fun e => by rw [p2]⟩ (fun x H2 s2 f2 => ?_)
  · rw [← p2] at nd
    unfold Nd nu at nd
    rw [List.map_map] at nd
    exact nd
  · have m2 : (p.1, p.2.2) ∈ T := by
      rw [← p2]
      exact List.mem_map.mpr ⟨p, m, rfl⟩
    exact (hk _ m2).2.1 x mx
  try dsimp only [List.set]
  walk_at "zz"
  have bT : ∀ e, Bits B (vl T e) := fun e => by
    rw [vl_lk nd]
    cases h9 : lkT T e with
    | none => exact Bits.zero
    | some v => exact (hk _ (lkT_some h9)).2.2
  have f3 : Fo K H2 x n (vl T) o B R2.length := Fo.of f2 o0 ((b20 o0 (by omega)).up (by decide)) bT
  have f4 : Fo K H2 x n F N (B + 20) R2.length := f3.cast N0 ((b20 N0 N1).up (by decide)) hv fun e => by
    have h9 := hv e
    have : F e = vl T e * (N / o) := by
      refine Int.eq_of_mul_eq_mul_right (show o ≠ 0 by omega) ?_
      rw [← h9, Int.mul_assoc, Int.ediv_mul_cancel dv]
    rw [this]
    refine (bT e).mul ((b20 N0 N1).le ?_)
    have := Int.ediv_le_self o (Int.le_of_lt N0)
    have := Int.ediv_nonneg (Int.le_of_lt N0) (Int.le_of_lt o0)
    omega
  exact k x H2 (Same.trans s1 s2) (f4.up (Nat.le_refl _) (by omega))
theorem c_law_made (L : Lw K mg) : Cal P w K mg base 7 "_law_made" (sp2 (fs_lmd K)) [] := by
  obtain ⟨fd, F⟩ := L.d_law_made
  exact ⟨⟨_, fd, ["n", "a"], [], ok_law_made L F, L.g_law_made, F.kp, F.bindsN (fun _ _ _ _ _ _ us hl => match us, hl with | [_, _], _ => rfl), .nil⟩⟩
theorem ok_law_scale (L : Lw K mg) {fd : FuncData} (F : FunD K "_law_scale" "_law_scale" (defArgs s_law_scale) (defBody s_law_scale) (defScope s_law_scale) (df_law_scale.dvs K) (df_law_scale.kws K) (He.fAd K ("_law_scale", none)) fd) : FnOk P w K mg base (L2N.CX P w) 1 (He.fAd K ("_law_scale", none)) fd (["a", "top", "bottom"] : List Str) (sp3 fs_lsc) := by
  refine FunD.ok F sc_law_scale len3 (fun cdv A outer s H vs Q E hr h => ?_)
  obtain ⟨a, b, c, rfl, h⟩ := h
  refine ⟨_, (pss_cons (ps_set (i := 3) sc_law_scale.nd rfl (by first | exact Or.inl rfl | exact Or.inr rfl) pe_dnewT)
    (pss_cons (ps_for (passes_of rfl) rfl (pi_keysT (pe_ix (ix_seqK (K := K) rfl) (pv 0) pe_int (fun _ _ => rfl))) (pg_name (i := 4) sc_law_scale.nd rfl (by first | exact Or.inl rfl | exact Or.inr rfl)) (pss_one (ps_dput (hu1 hr) (pv 3) (pv 4) (pe_op o_rep (pe_dget (hu1 hr) (pe_ix (ix_seqK (K := K) rfl) (pv 0) pe_int (fun _ _ => rfl)) (pv 4) (fun _ _ => rfl)) (pv 1)) (by rfl))))
    (pss_one (ps_fix (ps_ret (pe_tup (pa_cons (pe_op o_rep (pe_ix (ix_seqK (K := K) rfl) (pv 0) pe_int (fun _ _ => rfl)) (pv 2)) (pa_cons (pv 3) pa_nil)))))))), ?_⟩
  rw [show L2.start (["a", "top", "bottom", "table", "ex"] : List Str) [a, b, c] = [some a, some b, some c, none, none] from rfl]
  obtain ⟨t, n, cc, F, N, B, S, u, v, rfl, rfl, rfl, hLa, hS, u1, u7, v1, v9, hN, k⟩ := h
  obtain ⟨o, d, T, ht, ⟨hFz, nd, hk, lT⟩, o0, dv, N0, N1, hv⟩ := id hLa
  have oN := Int.le_of_dvd N0 dv
  try dsimp only [List.set]
  walk_at "zz"
  refine z_dnew (f := V.int) fun D hD => ?_
  have s1 : Same H (upd H D (.dT (enT V.int []))) := Same.new hD
  have e1 : (upd H D (.dT (enT V.int []))) D = some (.dT (enT V.int [])) := upd_same
  generalize (upd H D (.dT (enT V.int []))) = H1 at *
  have ht1 := s1 _ _ ht
  have nd1 := frz_ne hFz hD
  have nt1 := tup_ne ht hD
  try dsimp only [List.set]
  walk_at "zz"
  refine z_foK (fun i σ Hi => ∃ o4, σ = [some (V.ref t), some (V.int u), some (V.int v), some (V.ref D), o4] ∧ But D H1 Hi ∧ Hi D = some (.dT (enT V.int ((T.take i).map fun p => (p.1, p.2 * u))))) (hFz.mono s1) ⟨_, rfl, (fun _ _ _ e => e), e1⟩ (fun o ho i σ Hi I => ?_) (fun i e y q σ Hi hi hq I => ?_) (fun σ Hi I => ?_)
  · obtain ⟨_, _, b, _⟩ := I
    exact b _ _ nd1 ho
  · obtain ⟨o4, rfl, b, hW⟩ := I
    have hti := b _ _ nt1 ht1
    have hFi : Frz Hi d V.int T := (hFz.mono s1).elim fun o e => ⟨o, b _ _ nd1 e⟩
    have hlk := lkT_mem nd (List.mem_of_getElem? hi)
    dsimp only at hlk
    try dsimp only [List.set]
    walk_at "zz"
    refine z_dgf hFi hq hlk ?_
    try dsimp only [List.set]
    walk_at "zz"
    refine z_dpm (x := y * u) hW hq (by rw [List.length_map, List.length_take]; omega) ?_
    refine ⟨_, rfl, put_but b, ?_⟩
    rw [upd_same, pt_new (lk_mapn (nd_take nd hi)), take_succ' hi, List.map_append]
    rfl
  obtain ⟨o4, rfl, b, hW⟩ := I
  rw [List.take_length] at hW
  refine z_fix hW (fun oo => ?_)
  have sE : Same H (upd Hi D (.frz oo (.dT (enT V.int (T.map fun p => (p.1, p.2 * u)))))) := Same.put (same_but hD fun a o ne e => b a o ne (s1 _ _ e)) hD
  have hE : Frz (upd Hi D (.frz oo (.dT (enT V.int (T.map fun p => (p.1, p.2 * u)))))) D V.int (T.map fun p => (p.1, p.2 * u)) := Frz.new
  generalize (upd Hi D (.frz oo (.dT (enT V.int (T.map fun p => (p.1, p.2 * u)))))) = HE at *
  have htE := sE _ _ ht
  try dsimp only [List.set]
  walk_at "zz"
  rename_i r H3 hr s3 er
  refine k r H3 (Same.trans sE s3) ⟨o * v, D, _, er, ⟨hE.mono s3, nd_map nd, fun p m => ?_, by rw [List.length_map]; exact lT⟩, Int.mul_pos o0 (by omega), Int.mul_dvd_mul dv (Int.dvd_refl v), Int.mul_pos N0 (by omega), hN, fun e => ?_⟩
  · obtain ⟨p0, m0, rfl⟩ := List.mem_map.mp m
    exact ⟨(hk p0 m0).1, (hk p0 m0).2.1, (hk p0 m0).2.2.mul (Bits.small (n := 3) (by show -(8 : Int) < u; omega) (by show u < (8 : Int); omega))⟩
  · rw [vl_mulr]
    have := hv e
    have a1 : vl T e * u * (N * v) = (vl T e * N) * (u * v) := by grind
    rw [a1, this]
    grind
theorem c_law_scale (L : Lw K mg) : Cal P w K mg base 1 "_law_scale" (sp3 fs_lsc) [] := by
  obtain ⟨fd, F⟩ := L.d_law_scale
  exact ⟨⟨_, fd, ["a", "top", "bottom"], [], ok_law_scale L F, L.g_law_scale, F.kp, F.bindsN (fun _ _ _ _ _ _ us hl => match us, hl with | [_, _, _], _ => rfl), .nil⟩⟩
end
end T
set_option maxHeartbeats 4000000
namespace T
open PySem PySem.Spec PyProof.Rows L2 Z
open S15
/-- o1 * (o2 / gcd) is the least common multiple -/
theorem lcm_div {m n : Int} (hm : 0 < m) (hn : 0 < n) : m * (n / (Int.gcd m n : Nat)) = ((Nat.lcm m.natAbs n.natAbs : Nat) : Int) := by
  obtain ⟨a, rfl⟩ := Int.eq_ofNat_of_zero_le (Int.le_of_lt hm)
  obtain ⟨b, rfl⟩ := Int.eq_ofNat_of_zero_le (Int.le_of_lt hn)
  show (a : Int) * ((b : Int) / ((Nat.gcd a b : Nat) : Int)) = ((Nat.lcm a b : Nat) : Int)
  have e : Nat.lcm a b = a * (b / Nat.gcd a b) := by
    rw [Nat.lcm, Nat.mul_div_assoc _ (Nat.gcd_dvd_right a b)]
  rw [e, Int.natCast_mul, Int.natCast_ediv]
theorem gcd_facts {m n : Int} (hm : 0 < m) (hn : 0 < n) (lm : m ≤ 1000000) (ln : n ≤ 1000000) : 0 < ((Int.gcd m n : Nat) : Int) ∧ ((Int.gcd m n : Nat) : Int) ≤ 1000000 ∧ 0 < m / (Int.gcd m n : Nat) ∧ m / (Int.gcd m n : Nat) ≤ 1000000 ∧ 0 < n / (Int.gcd m n : Nat) ∧ n / (Int.gcd m n : Nat) ≤ 1000000 ∧
    m * (n / (Int.gcd m n : Nat)) = n * (m / (Int.gcd m n : Nat)) := by
  have g0 : (0 : Int) < (Int.gcd m n : Nat) := by
    have : Int.gcd m n ≠ 0 := fun z => by
      have := (Int.gcd_eq_zero_iff.mp z).2
      omega
    omega
  have d1 := Int.gcd_dvd_left m n
  have d2 := Int.gcd_dvd_right m n
  have l1 := Int.le_of_dvd hm d1
  have e1 := Int.ediv_le_self ((Int.gcd m n : Nat) : Int) (Int.le_of_lt hm)
  have e2 := Int.ediv_le_self ((Int.gcd m n : Nat) : Int) (Int.le_of_lt hn)
  have c := lcm_div hm hn
  have c2 := lcm_div hn hm
  rw [Int.gcd_comm, Nat.lcm_comm] at c2
  refine ⟨g0, by omega, Int.ediv_pos_of_pos_of_dvd hm (Int.le_of_lt g0) d1, by omega, Int.ediv_pos_of_pos_of_dvd hn (Int.le_of_lt g0) d2, by omega, ?_⟩
  rw [c, c2]
def fs_lsu : F2 := fun a b H Q _ => ∃ (t u : Addr) (n : Nat) (cc : Int) (F G : Ex → Int) (N : Int) (B S S' : Nat), a = .ref t ∧ b = .ref u ∧ La H t n cc F N B S ∧ La H u n cc G N B S' ∧ S + S' ≤ 100000 ∧ B ≤ 100000 ∧ ∀ r H', Same H H' → La H' r n cc (fun e => F e + G e) N (B + 21) (S + S') → Q (.ref r) H'
theorem u_lsu {H : Hp} {Q : VK} {E : XK} {t u : Addr} {n : Nat} {cc : Int} {F G : Ex → Int} {N : Int} {B S S' : Nat} (h1 : La H t n cc F N B S) (h2 : La H u n cc G N B S') (hS : S + S' ≤ 100000) (hB : B ≤ 100000) (k : ∀ r H', Same H H' → La H' r n cc (fun e => F e + G e) N (B + 21) (S + S') → Q (.ref r) H') : sp2 fs_lsu [.ref t, .ref u] H Q E := ⟨_, _, rfl, t, u, n, cc, F, G, N, B, S, S', rfl, rfl, h1, h2, hS, hB, k⟩
def fs_lpr : F2 := fun a b H Q _ => ∃ (t u : Addr) (n : Nat) (cc : Int) (F G C : Ex → Int) (N : Int) (B S S' : Nat) (L M : List (Ex × Int)), a = .ref t ∧ b = .ref u ∧ La H t n cc F N B S ∧ La H u n cc G N B S' ∧ (∀ e, vl L e = F e) ∧ (∀ e, vl M e = G e) ∧ (∀ e, C e = cv L M e) ∧ S * S' ≤ 90000 ∧ S ≤ 90000 ∧ S' ≤ 90000 ∧ B ≤ 50000 ∧ n ≤ 1000 ∧ N * N ≤ 1000000 ∧
  ∀ r H', Same H H' → La H' r n (cc + cc) C (N * N) (B + B + S * S') (S * S') → Q (.ref r) H'
theorem u_lpr {H : Hp} {Q : VK} {E : XK} {t u : Addr} {n : Nat} {cc : Int} {F G C : Ex → Int} {N : Int} {B S S' : Nat} {L M : List (Ex × Int)} (h1 : La H t n cc F N B S) (h2 : La H u n cc G N B S') (h3 : ∀ e, vl L e = F e) (h4 : ∀ e, vl M e = G e) (h5 : ∀ e, C e = cv L M e) (h6 : S * S' ≤ 90000) (h7 : S ≤ 90000) (h8 : S' ≤ 90000) (h9 : B ≤ 50000) (ha : n ≤ 1000) (hb : N * N ≤ 1000000)
    (k : ∀ r H', Same H H' → La H' r n (cc + cc) C (N * N) (B + B + S * S') (S * S') → Q (.ref r) H') : sp2 fs_lpr [.ref t, .ref u] H Q E := ⟨_, _, rfl, t, u, n, cc, F, G, C, N, B, S, S', L, M, rfl, rfl, h1, h2, h3, h4, h5, h6, h7, h8, h9, ha, hb, k⟩
def fs_lto : F1 := fun a H Q _ => ∃ (t : Addr) (n : Nat) (cc : Int) (F : Ex → Int) (N : Int) (B S : Nat) (dd : Int), a = .ref t ∧ La H t n cc F N B S ∧ S ≤ 100000 ∧ Dg F dd ∧ ∀ r H', Same H H' → La H' r n cc (S15.hp dd F) N B S → Q (.ref r) H'
theorem u_lto {H : Hp} {Q : VK} {E : XK} {t : Addr} {n : Nat} {cc : Int} {F : Ex → Int} {N : Int} {B S : Nat} {dd : Int} (h1 : La H t n cc F N B S) (h2 : S ≤ 100000) (h3 : Dg F dd) (k : ∀ r H', Same H H' → La H' r n cc (S15.hp dd F) N B S → Q (.ref r) H') : sp1 fs_lto [.ref t] H Q E := ⟨_, rfl, t, n, cc, F, N, B, S, dd, rfl, h1, h2, h3, k⟩
def fs_ltu : F2 := fun a b H Q _ => ∃ (t : Addr) (w : Int) (n : Nat) (cc : Int) (F : Ex → Int) (N : Int) (B S : Nat), a = .ref t ∧ b = .int w ∧ La H t n cc F N B S ∧ S ≤ 100000 ∧ ∀ r H' F', Same H H' → La H' r n cc F' N B S → Q (.ref r) H'
theorem u_ltu {H : Hp} {Q : VK} {E : XK} {t : Addr} {w : Int} {n : Nat} {cc : Int} {F : Ex → Int} {N : Int} {B S : Nat} (h1 : La H t n cc F N B S) (h2 : S ≤ 100000) (k : ∀ r H' F', Same H H' → La H' r n cc F' N B S → Q (.ref r) H') : sp2 fs_ltu [.ref t, .int w] H Q E := ⟨_, _, rfl, t, w, n, cc, F, N, B, S, rfl, rfl, h1, h2, k⟩
theorem ad_up {c : Int} : ∀ {a b : Ex}, (∀ x, x ∈ a → x ≤ c) → (∀ x, x ∈ b → x ≤ c) → ∀ x, x ∈ S15.ad a b → x ≤ c + c
  | [], _, _, _, x, h => by simp [S15.ad] at h
  | _ :: _, [], _, _, x, h => by simp [S15.ad] at h
  | u :: a, v :: b, h1, h2, x, h => by
    rcases List.mem_cons.mp (show x ∈ (u + v) :: S15.ad a b from h) with e | m
    · have := h1 u List.mem_cons_self
      have := h2 v List.mem_cons_self
      omega
    · exact ad_up (fun x m => h1 x (List.mem_cons_of_mem _ m)) (fun x m => h2 x (List.mem_cons_of_mem _ m)) x m
theorem vl_fn {g : Ex → Int} {k : Ex} : ∀ {l : List Ex}, l.Nodup → vl (l.map fun e => (e, g e)) k = if k ∈ l then g k else 0
  | [], _ => rfl
  | e :: r, nd => by
    have nd2 := List.nodup_cons.mp nd
    show (if e = k then g e else 0) + vl (r.map fun e => (e, g e)) k = _
    rw [vl_fn nd2.2]
    by_cases c : e = k
    · subst c
      rw [if_pos rfl, if_neg nd2.1, if_pos List.mem_cons_self]
      omega
    · rw [if_neg c]
      have : (k ∈ e :: r) ↔ k ∈ r := by
        constructor
        · intro m
          rcases List.mem_cons.mp m with z | z
          · exact absurd z.symm c
          · exact z
        · exact fun m => List.mem_cons_of_mem _ m
      simp only [this]
      omega
theorem pt_last {W : List (Ex × Int)} {e : Ex} {x y : Int} (h : lkT W e = none) : ptT (W ++ [(e, x)]) e y = W ++ [(e, y)] := by
  unfold ptT
  rw [if_pos (by simp), List.map_append]
  congr 1
  · refine (List.map_congr_left fun p m => ?_).trans (List.map_id _)
    rw [if_neg (lkT_none.mp h p m)]
    rfl
  · simp
theorem lk_pos {T : List (Ex × Int)} {e : Ex} (nd : Nd T) (h : vl T e ≠ 0) : lkT T e = some (vl T e) := by
  rw [vl_lk nd] at h ⊢
  cases h9 : lkT T e with
  | none =>
    rw [h9] at h
    exact absurd rfl h
  | some v => rfl
theorem vl_tk {T : List (Ex × Int)} {i : Nat} {e k : Ex} {y : Int} (hi : T[i]? = some (e, y)) : vl (T.take (i + 1)) k = vl (T.take i) k + if e = k then y else 0 := by
  rw [take_succ' hi, vl_app]
  show _ + ((if e = k then y else 0) + 0) = _
  omega
theorem vl_no {T : List (Ex × Int)} {e : Ex} (nd : Nd T) (h : lkT T e = none) : vl T e = 0 := by
  rw [vl_lk nd, h]
  rfl
local macro_rules | `(tactic| walk_at "z") => `(tactic| with_reducible refine z_fldS ?_)
local macro_rules | `(tactic| walk_at "z") => `(tactic| ((with_reducible refine' z_fdt ?zc1 ?zc2 ?zl2 ?_); (case zc1 => exact Lw.cl_Ratio (by assumption)); (case zc2 => exact Lw.na_Ratio_top (by assumption)); (case zl2 => walk_at "up")))
local macro_rules | `(tactic| walk_at "z") => `(tactic| ((with_reducible refine' z_fdb ?zc1 ?zc2 ?zl2 ?_); (case zc1 => exact Lw.cl_Ratio (by assumption)); (case zc2 => exact Lw.na_Ratio_bottom (by assumption)); (case zl2 => walk_at "up")))
local macro_rules | `(tactic| walk_at "z") => `(tactic| ((with_reducible refine' z_isTup ?zl1 ?_); (case zl1 => walk_at "up")))
local macro_rules | `(tactic| walk_at "z") => `(tactic| ((with_reducible refine' z_isR ?zl1 ?zl2 ?zl3 ?_); (case zl1 => exact Lw.in_Ratio (by assumption)); (case zl2 => exact Lw.kt_Ratio_Ratio (by assumption)); (case zl3 => walk_at "up")))
local macro_rules | `(tactic| walk_at "z") => `(tactic| ((with_reducible refine' z_isFm ?zl1 ?zl2 ?zl3 ?_); (case zl1 => exact Lw.in_Form (by assumption)); (case zl2 => exact Lw.kt_Form_Form (by assumption)); (case zl3 => walk_at "up")))
local macro_rules | `(tactic| walk_at "z") => `(tactic| with_reducible refine u_who ?_)
local macro_rules | `(tactic| walk_at "z") => `(tactic| with_reducible refine u_gcd ?_)
local macro_rules | `(tactic| walk_at "up") => `(tactic| first
  | assumption
  | (refine' IsR.mono (by assumption) ?zup; case zup => walk_at "up")
  | (refine' IsE.mono (by assumption) ?zup; case zup => walk_at "up")
  | (refine' Same.at (by assumption) ?zup; case zup => walk_at "up")
  | (refine' SqL.of ?zup; case zup => walk_at "up")
  | (refine' L2.Same.seq (by assumption) ?zup; case zup => walk_at "up"))
local macro_rules | `(tactic| walk_at "z") => `(tactic| first
  | ((with_reducible refine' z_var ?zvh ?_); (case zvh => exact rfl))
  | with_reducible refine z_c ?_
  | with_reducible refine z_cons ?_
  | with_reducible refine z_nil ?_
  | with_reducible refine z_op ?_
  | with_reducible refine z_nx ?_
  | with_reducible refine z_seq ?_
  | with_reducible refine z_asg ?_
  | with_reducible refine z_asgG ?_
  | with_reducible refine z_call ?_
  | with_reducible refine z_sq0 ?_
  | with_reducible refine z_sq1 ?_
  | with_reducible refine z_ifS ?_
  | with_reducible refine z_test ?_
  | with_reducible refine z_tb ?_
  | with_reducible refine z_bl ?_
  | with_reducible refine z_blI ?_
  | with_reducible refine z_ret ?_
  | with_reducible refine z_rt ?_
  | with_reducible refine z_T ?_
  | with_reducible refine z_F ?_
  | with_reducible refine z_add ?_
  | with_reducible refine z_sub ?_
  | with_reducible refine z_neg ?_
  | with_reducible refine z_un ?_
  | with_reducible refine z_eqI ?_
  | with_reducible refine z_neI ?_
  | with_reducible refine z_lt ?_
  | with_reducible refine z_le ?_
  | with_reducible refine z_gt ?_
  | with_reducible refine z_ge ?_
  | with_reducible refine z_not ?_
  | with_reducible refine z_and ?_
  | with_reducible refine z_or ?_
  | with_reducible refine z_andV ?_
  | with_reducible refine z_orV ?_
  | with_reducible refine z_notV ?_
  | with_reducible refine z_if ?_
  | with_reducible refine z_cb ?_
  | with_reducible refine z_int1 ?_
  | with_reducible refine z_intb ?_
  | with_reducible refine z_abs ?_
  | with_reducible refine z_gcd ?_
  | with_reducible refine z_isi_ii ?_
  | with_reducible refine z_isi_ib ?_
  | with_reducible refine z_next ?_
  | with_reducible refine z_drop ?_
  | with_reducible refine z_par ?_
  | with_reducible refine z_par2 ?_
  | with_reducible refine z_tupN ?_
  | with_reducible refine z_lstN ?_
  | ((with_reducible refine' z_nt ?zl1 ?_); (case zl1 => exact Nat.le_of_ble_eq_true rfl); intro p H' hp hs he)
  | ((with_reducible refine' z_gtup ?zl1 ?zl2 ?_); (case zl1 => walk_at "up"); (case zl2 => exact rfl))
  | with_reducible refine z_bk ?_
  | with_reducible refine z_ct ?_
  | with_reducible refine z_break ?_
  | with_reducible refine z_cont ?_
  | with_reducible refine z_retN ?_
  | with_reducible refine z_nn ?_
  | with_reducible refine z_mk ?_
  | with_reducible refine z_gn ?_
  | with_reducible refine z_gcons ?_
  | with_reducible refine z_gnil ?_
  | with_reducible refine z_mt ?_
  | with_reducible refine z_mko ?_
  | with_reducible refine z_for2 ?_
  | with_reducible refine z_ownI ?_
  | ((with_reducible refine' z_lenL ?zl1 ?_); (case zl1 => walk_at "up"))
  | ((with_reducible refine' z_ixT ?zl1 ?zl2 ?_); (case zl1 => walk_at "up"); (case zl2 => exact rfl))
  | ((with_reducible refine' z_mulL ?zl1 ?zl2 ?_); (case zl1 => omega); (case zl2 => omega))
  | ((with_reducible refine' z_mulR ?zl1 ?zl2 ?_); (case zl1 => omega); (case zl2 => omega))
  | ((with_reducible refine' z_divS ?zl1 ?zl2 ?_); (case zl1 => omega); (case zl2 => omega))
  | ((with_reducible refine' z_mulW ?zl1 ?zl2 ?zl3 ?zl4 ?_); (case zl1 => omega); (case zl2 => omega); (case zl3 => omega); (case zl4 => omega))
  | ((with_reducible refine' z_divW ?zl1 ?zl2 ?_); (case zl1 => omega); (case zl2 => omega)))
local macro_rules | `(tactic| walk_at "zz") => `(tactic| repeat (walk_at "z"))
local macro_rules | `(tactic| walk_at "z") => `(tactic| with_reducible refine z_lstN ?_)
local macro_rules | `(tactic| walk_at "z") => `(tactic| with_reducible refine z_p6 ?_)
local macro_rules | `(tactic| walk_at "z") => `(tactic| with_reducible refine z_p12 ?_)
local macro_rules | `(tactic| walk_at "z") => `(tactic| with_reducible refine z_p13 ?_)
local macro_rules | `(tactic| walk_at "z") => `(tactic| with_reducible refine z_calln ?_)
local macro_rules | `(tactic| walk_at "z") => `(tactic| with_reducible refine z_xfS ?_)
local macro_rules | `(tactic| walk_at "z") => `(tactic| with_reducible refine z_lcS ?_)
local macro_rules | `(tactic| walk_at "z") => `(tactic| with_reducible refine z_lcRS ?_)
local macro_rules | `(tactic| walk_at "z") => `(tactic| with_reducible refine z_lcZS ?_)
local macro_rules | `(tactic| walk_at "z") => `(tactic| with_reducible refine z_foS ?_)
local macro_rules | `(tactic| walk_at "z") => `(tactic| with_reducible refine z_for1 ?_)
local macro_rules | `(tactic| walk_at "z") => `(tactic| with_reducible refine z_tsl ?_)
local macro_rules | `(tactic| walk_at "z") => `(tactic| with_reducible refine z_np ?_)
local macro_rules | `(tactic| walk_at "z") => `(tactic| with_reducible refine z_pt ?_)
local macro_rules | `(tactic| walk_at "z") => `(tactic| with_reducible refine z_pti ?_)
local macro_rules | `(tactic| walk_at "z") => `(tactic| with_reducible refine z_catI ?_)
local macro_rules | `(tactic| walk_at "z") => `(tactic| with_reducible refine z_isNI ?_)
local macro_rules | `(tactic| walk_at "z") => `(tactic| with_reducible refine z_isNN ?_)
local macro_rules | `(tactic| walk_at "z") => `(tactic| with_reducible refine z_notNI ?_)
local macro_rules | `(tactic| walk_at "z") => `(tactic| with_reducible refine z_notNN ?_)
local macro_rules | `(tactic| walk_at "z") => `(tactic| with_reducible refine z_gsub ?_)
local macro_rules | `(tactic| walk_at "z") => `(tactic| with_reducible refine z_isNb ?_)
local macro_rules | `(tactic| walk_at "z") => `(tactic| with_reducible refine z_notNb ?_)
local macro_rules | `(tactic| walk_at "z") => `(tactic| ((with_reducible refine' z_nlR ?zl1 ?_); (case zl1 => exact Nat.le_of_ble_eq_true rfl); intro p H' hp hs he))
local macro_rules | `(tactic| walk_at "z") => `(tactic| ((with_reducible refine' z_repR ?zl1 ?zl2 ?_); (case zl1 => omega); (case zl2 => omega)))
local macro_rules | `(tactic| walk_at "z") => `(tactic| ((with_reducible refine' z_repL ?zl1 ?zl2 ?_); (case zl1 => omega); (case zl2 => omega)))
local macro_rules | `(tactic| walk_at "z") => `(tactic| ((with_reducible refine' z_lenLst ?zl1 ?_); (case zl1 => walk_at "up")))
local macro_rules | `(tactic| walk_at "z") => `(tactic| ((with_reducible refine' z_cat ?zl1 ?zl2 ?zl3 ?_); (case zl1 => walk_at "up"); (case zl2 => walk_at "up"); (case zl3 => (simp only [List.length_map, List.length_cons, List.length_nil, List.length_append, List.length_replicate]; omega)); intro p H' hp hs he))
local macro_rules | `(tactic| walk_at "z") => `(tactic| with_reducible refine z_sfl ?_)
local macro_rules | `(tactic| walk_at "z") => `(tactic| with_reducible refine z_lcES ?_)
local macro_rules | `(tactic| walk_at "z") => `(tactic| with_reducible refine z_lcMS ?_)
local macro_rules | `(tactic| walk_at "z") => `(tactic| with_reducible refine z_foES ?_)
local macro_rules | `(tactic| walk_at "z") => `(tactic| with_reducible refine z_fo3S ?_)
local macro_rules | `(tactic| walk_at "z") => `(tactic| with_reducible refine z_sta ?_)
local macro_rules | `(tactic| walk_at "z") => `(tactic| with_reducible refine z_sta1 ?_)
local macro_rules | `(tactic| walk_at "z") => `(tactic| with_reducible refine z_lcTS ?_)
local macro_rules | `(tactic| walk_at "z") => `(tactic| with_reducible refine z_foTS ?_)
local macro_rules | `(tactic| walk_at "z") => `(tactic| with_reducible refine z_revTS ?_)
local macro_rules | `(tactic| walk_at "z") => `(tactic| with_reducible refine z_max2 ?_)
local macro_rules | `(tactic| walk_at "z") => `(tactic| ((with_reducible refine' z_fldt ?zc1 ?zc2 ?zl1 ?zl2 ?_); (case zc1 => exact Lw.cl_Ratio (by assumption)); (case zc2 => exact Lw.na_Ratio_top (by assumption)); (case zl1 => exact rfl); (case zl2 => walk_at "up")))
local macro_rules | `(tactic| walk_at "z") => `(tactic| ((with_reducible refine' z_fldb ?zc1 ?zc2 ?zl1 ?zl2 ?_); (case zc1 => exact Lw.cl_Ratio (by assumption)); (case zc2 => exact Lw.na_Ratio_bottom (by assumption)); (case zl1 => exact rfl); (case zl2 => walk_at "up")))
local macro_rules | `(tactic| walk_at "z") => `(tactic| ((with_reducible refine' u_mtF ?zl1 ?_); (case zl1 => walk_at "up")))
local macro_rules | `(tactic| walk_at "z") => `(tactic| ((with_reducible refine' z_ixLst ?zl1 ?zl2 ?_); (case zl1 => walk_at "up"); (case zl2 => exact rfl)))
local macro_rules | `(tactic| walk_at "z") => `(tactic| with_reducible refine z_yes ?_)
local macro_rules | `(tactic| walk_at "z") => `(tactic| with_reducible refine z_if1 ?_)
local macro_rules | `(tactic| walk_at "z") => `(tactic| with_reducible refine z_dg ?_)
local macro_rules | `(tactic| walk_at "z") => `(tactic| with_reducible refine z_di ?_)
local macro_rules | `(tactic| walk_at "z") => `(tactic| with_reducible refine z_dp ?_)
local macro_rules | `(tactic| walk_at "z") => `(tactic| with_reducible refine z_foKS ?_)
local macro_rules | `(tactic| walk_at "z") => `(tactic| with_reducible refine z_foPS ?_)
local macro_rules | `(tactic| walk_at "z") => `(tactic| with_reducible refine z_foTS ?_)
local macro_rules | `(tactic| walk_at "z") => `(tactic| with_reducible refine z_lcKS ?_)
local macro_rules | `(tactic| walk_at "z") => `(tactic| with_reducible refine z_lcTS ?_)
local macro_rules | `(tactic| walk_at "z") => `(tactic| with_reducible refine z_dcTS ?_)
local macro_rules | `(tactic| walk_at "z") => `(tactic| with_reducible refine z_dcPS ?_)
local macro_rules | `(tactic| walk_at "z") => `(tactic| with_reducible refine z_fixV ?_)
local macro_rules | `(tactic| walk_at "z") => `(tactic| with_reducible refine z_mkk ?_)
local macro_rules | `(tactic| walk_at "z") => `(tactic| with_reducible refine z_sta ?_)
local macro_rules | `(tactic| walk_at "z") => `(tactic| with_reducible refine z_sta1 ?_)
local macro_rules | `(tactic| walk_at "z") => `(tactic| with_reducible refine z_ckw ?_)
local macro_rules | `(tactic| walk_at "z") => `(tactic| with_reducible refine z_cmpD ?_)
local macro_rules | `(tactic| walk_at "z") => `(tactic| with_reducible refine z_pk1 ?_)
local macro_rules | `(tactic| walk_at "z") => `(tactic| with_reducible refine z_tBD ?_)
local macro_rules | `(tactic| walk_at "z") => `(tactic| ((with_reducible refine' z_fl ?zc1 ?zc2 ?zl1 ?zl2 ?_); (case zc1 => exact Lw.cl_Form (by assumption)); (case zc2 => exact Lw.na_Form_letters (by assumption)); (case zl1 => exact rfl); (case zl2 => walk_at "up")))
local macro_rules | `(tactic| walk_at "z") => `(tactic| ((with_reducible refine' z_ft ?zc1 ?zc2 ?zl1 ?zl2 ?_); (case zc1 => exact Lw.cl_Form (by assumption)); (case zc2 => exact Lw.na_Form_terms (by assumption)); (case zl1 => exact rfl); (case zl2 => walk_at "up")))
local macro_rules | `(tactic| walk_at "z") => `(tactic| ((with_reducible refine' z_fd ?zc1 ?zc2 ?zl1 ?zl2 ?_); (case zc1 => exact Lw.cl_Form (by assumption)); (case zc2 => exact Lw.na_Form_degree (by assumption)); (case zl1 => exact rfl); (case zl2 => walk_at "up")))
theorem sameFG {H H1 H2 : Hp} (h : Same H1 H2) (e : Same H H1) : Same H H2 := e.trans h
local macro_rules | `(tactic| walk_at "sm") => `(tactic| first
  | assumption
  | exact fun _ _ h => h
  | (refine' sameFG (by assumption) ?zsm; case zsm => walk_at "sm"))
local macro_rules | `(tactic| walk_at "up") => `(tactic| first
  | assumption
  | (with_reducible refine' IsR.mono (by assumption) ?zup; case zup => walk_at "up")
  | (with_reducible refine' Fr.mono (by assumption) ?zup; case zup => walk_at "up")
  | (with_reducible refine' IsFm.mono (by assumption) ?zup; case zup => walk_at "up")
  | (with_reducible refine' Frz.mono (by assumption) ?zup; case zup => walk_at "up")
  | (with_reducible refine' Fo.mono (by assumption) ?zup; case zup => walk_at "up")
  | (with_reducible refine' La.mono (by assumption) ?zup; case zup => walk_at "up")
  | (with_reducible refine' Ta.mono (by assumption) ?zup; case zup => walk_at "up")
  | (with_reducible refine' PrL.mono (by assumption) ?zup; case zup => walk_at "up")
  | (with_reducible refine' EnA.mono (by assumption) ?zup; case zup => walk_at "up")
  | (with_reducible refine' Srt.mono (by assumption) ?zup; case zup => walk_at "up")
  | (with_reducible refine' Same.at (by assumption) ?zup; case zup => walk_at "up")
  | fail)
section
variable {P : Program} {w : World} {K : Frag} {mg : Str → Option Value} {base : Heap}
theorem ok_law_sum (L : Lw K mg) {fd : FuncData} (F : FunD K "_law_sum" "_law_sum" (defArgs s_law_sum) (defBody s_law_sum) (defScope s_law_sum) (df_law_sum.dvs K) (df_law_sum.kws K) (He.fAd K ("_law_sum", none)) fd) : FnOk P w K mg base (L2N.CX P w) 2 (He.fAd K ("_law_sum", none)) fd (["a", "b"] : List Str) (sp2 fs_lsu) := by
  refine FunD.ok F sc_law_sum len2 (fun cdv A outer s H vs Q E hr h => ?_)
  obtain ⟨a, b, rfl, h⟩ := h
  refine ⟨_, (pss_cons (ps_set (i := 2) sc_law_sum.nd rfl (by first | exact Or.inl rfl | exact Or.inr rfl) (pe_c (c_law_gcd (K := K) L) hr (by decide) (L2N.takes_of rfl rfl rfl rfl) (pa_cons (pe_ix (ix_seqK (K := K) rfl) (pv 0) pe_int (fun _ _ => rfl)) (pa_cons (pe_ix (ix_seqK (K := K) rfl) (pv 1) pe_int (fun _ _ => rfl)) pa_nil))))
    (pss_cons (ps_set (i := 3) sc_law_sum.nd rfl (by first | exact Or.inl rfl | exact Or.inr rfl) pe_dnewT)
    (pss_cons (ps_for (passes_of rfl) rfl (pi_keysT (pe_ix (ix_seqK (K := K) rfl) (pv 0) pe_int (fun _ _ => rfl))) (pg_name (i := 4) sc_law_sum.nd rfl (by first | exact Or.inl rfl | exact Or.inr rfl)) (pss_one (ps_dput (hu1 hr) (pv 3) (pv 4) (pe_op o_rep (pe_dget (hu1 hr) (pe_ix (ix_seqK (K := K) rfl) (pv 0) pe_int (fun _ _ => rfl)) (pv 4) (fun _ _ => rfl)) (pe_op o_div (pe_ix (ix_seqK (K := K) rfl) (pv 1) pe_int (fun _ _ => rfl)) (pv 2))) (by rfl))))
    (pss_cons (ps_for (passes_of rfl) rfl (pi_keysT (pe_ix (ix_seqK (K := K) rfl) (pv 1) pe_int (fun _ _ => rfl))) (pg_name (i := 4) sc_law_sum.nd rfl (by first | exact Or.inl rfl | exact Or.inr rfl)) (pss_one (ps_dput (hu1 hr) (pv 3) (pv 4) (pe_op o_cat (pe_dget2 (hu1 hr) (pv 3) (pv 4) pe_int ⟨by rfl, by rfl, by rfl, by rfl⟩) (pe_op o_rep (pe_dget (hu1 hr) (pe_ix (ix_seqK (K := K) rfl) (pv 1) pe_int (fun _ _ => rfl)) (pv 4) (fun _ _ => rfl)) (pe_op o_div (pe_ix (ix_seqK (K := K) rfl) (pv 0) pe_int (fun _ _ => rfl)) (pv 2)))) (by rfl))))
    (pss_one (ps_fix (ps_ret (pe_tup (pa_cons (pe_op o_rep (pe_ix (ix_seqK (K := K) rfl) (pv 0) pe_int (fun _ _ => rfl)) (pe_op o_div (pe_ix (ix_seqK (K := K) rfl) (pv 1) pe_int (fun _ _ => rfl)) (pv 2))) (pa_cons (pv 3) pa_nil)))))))))), ?_⟩
  rw [show L2.start (["a", "b", "g", "table", "ex"] : List Str) [a, b] = [some a, some b, none, none, none] from rfl]
  obtain ⟨t, u, n, cc, F, G, N, B, S, S', rfl, rfl, hLa, hLb, hS, hB, k⟩ := h
  obtain ⟨o, d, T, ht, ⟨hFz, nd, hk, lT⟩, o0, dv, N0, N1, hv⟩ := id hLa
  obtain ⟨o', d', U, hu, ⟨hUz, ndU, hkU, lU⟩, o0', dv', _, _, hvU⟩ := id hLb
  have oN := Int.le_of_dvd N0 dv
  have oN' := Int.le_of_dvd N0 dv'
  obtain ⟨g0, g1, m20, m21, m10, m11, cross⟩ := gcd_facts o0 o0' (by omega) (by omega)
  have bm1 := b20 m10 m11
  have bm2 := b20 m20 m21
  have lcm := lcm_div o0 o0'
  try dsimp only [List.set]
  walk_at "zz"
  refine z_dnew (f := V.int) fun D hD => ?_
  have s1 : Same H (upd H D (.dT (enT V.int []))) := Same.new hD
  have e1 : (upd H D (.dT (enT V.int []))) D = some (.dT (enT V.int [])) := upd_same
  generalize (upd H D (.dT (enT V.int []))) = H1 at *
  have ht1 := s1 _ _ ht
  have hu1 := s1 _ _ hu
  have nd1 := frz_ne hFz hD
  have nd2 := frz_ne hUz hD
  have nt1 := tup_ne ht hD
  have nu1 := tup_ne hu hD
  try dsimp only [List.set]
  walk_at "zz"
  refine z_foK (fun i σ Hi => ∃ o4, σ = [some (V.ref t), some (V.ref u), some (V.int ((Int.gcd o o' : Nat) : Int)), some (V.ref D), o4] ∧ But D H1 Hi ∧ Hi D = some (.dT (enT V.int ((T.take i).map fun p => (p.1, p.2 * (o' / ((Int.gcd o o' : Nat) : Int))))))) (hFz.mono s1) ⟨_, rfl, (fun _ _ _ e => e), e1⟩ (fun o ho i σ Hi I => ?_) (fun i e y q σ Hi hi hq I => ?_) (fun σ Hi I => ?_)
  · obtain ⟨_, _, b, _⟩ := I
    exact b _ _ nd1 ho
  · obtain ⟨o4, rfl, b, hW⟩ := I
    have hti := b _ _ nt1 ht1
    have hui := b _ _ nu1 hu1
    have hFi : Frz Hi d V.int T := (hFz.mono s1).elim fun o e => ⟨o, b _ _ nd1 e⟩
    have hlk := lkT_mem nd (List.mem_of_getElem? hi)
    have hb := (hk _ (List.mem_of_getElem? hi)).2.2
    dsimp only at hlk hb
    try dsimp only [List.set]
    walk_at "zz"
    refine z_dgf hFi hq hlk ?_
    try dsimp only [List.set]
    walk_at "zz"
    refine z_dpm (x := y * (o' / ((Int.gcd o o' : Nat) : Int))) hW hq (by rw [List.length_map, List.length_take]; omega) ?_
    refine ⟨_, rfl, put_but b, ?_⟩
    rw [upd_same, pt_new (lk_mapn (nd_take nd hi)), take_succ' hi, List.map_append]
    rfl
  obtain ⟨o4, rfl, b, hW⟩ := I
  rw [List.take_length] at hW
  have hti := b _ _ nt1 ht1
  have hui := b _ _ nu1 hu1
  have hUi : Frz Hi d' V.int U := (hUz.mono s1).elim fun o e => ⟨o, b _ _ nd2 e⟩
  try dsimp only [List.set]
  walk_at "zz"
  refine z_foK (fun j σ Hj => ∃ o4 W, σ = [some (V.ref t), some (V.ref u), some (V.int ((Int.gcd o o' : Nat) : Int)), some (V.ref D), o4] ∧ But D H1 Hj ∧ Hj D = some (.dT (enT V.int W)) ∧ Nd W ∧ (∀ p, p ∈ W → Sh n p.1 ∧ (∀ x, x ∈ p.1 → x ≤ cc) ∧ Bits (B + 21) p.2) ∧ W.length ≤ T.length + j ∧ ∀ e, vl W e = vl T e * (o' / ((Int.gcd o o' : Nat) : Int)) + vl (U.take j) e * (o / ((Int.gcd o o' : Nat) : Int))) hUi ⟨_, T.map fun p => (p.1, p.2 * (o' / ((Int.gcd o o' : Nat) : Int))), rfl, b, hW, nd_map nd, fun p m => ?_, by rw [List.length_map]; omega, fun e => ?_⟩ (fun o ho i σ Hj I => ?_) (fun j e y q σ Hj hj hq I => ?_) (fun σ Hj I => ?_)
  · obtain ⟨p0, m0, rfl⟩ := List.mem_map.mp m
    exact ⟨(hk p0 m0).1, (hk p0 m0).2.1, ((hk p0 m0).2.2.mul bm1).up (by omega)⟩
  · rw [vl_mulr]
    show _ = _ + 0 * _
    rw [Int.zero_mul, Int.add_zero]
  · obtain ⟨_, W, _, b2, _⟩ := I
    obtain ⟨oo, ho2⟩ := hUz.mono s1
    have h9 := b _ _ nd2 ho2
    rw [h9] at ho
    cases ho
    exact b2 _ _ nd2 ho2
  · obtain ⟨o4, W, rfl, b2, hW2, ndW, hkW, lW, vW⟩ := I
    have htj := b2 _ _ nt1 ht1
    have huj := b2 _ _ nu1 hu1
    have hUj : Frz Hj d' V.int U := (hUz.mono s1).elim fun o e => ⟨o, b2 _ _ nd2 e⟩
    have hlk := lkT_mem ndU (List.mem_of_getElem? hj)
    obtain ⟨hsh, hup, hb⟩ := hkU _ (List.mem_of_getElem? hj)
    dsimp only at hlk hb hsh hup
    have jU : j < U.length := (List.getElem?_eq_some_iff.mp hj).1
    have v0 : vl (U.take j) e = 0 := vl_no (nd_tk j ndU) (nd_take ndU hj)
    have ve := vW e
    rw [v0, Int.zero_mul, Int.add_zero] at ve
    have bvT : Bits B (vl T e) := by
      rw [vl_lk nd]
      cases h9 : lkT T e with
      | none => exact Bits.zero
      | some v => exact (hk _ (lkT_some h9)).2.2
    try dsimp only [List.set]
    walk_at "zz"
    refine z_dg2 rfl (isd_m hW2) ?_
    try dsimp only [List.set]
    walk_at "zz"
    refine z_dg3 hW2 hq ?_
    rw [getd_int ndW]
    try dsimp only [List.set]
    walk_at "zz"
    refine z_dgf hUj hq hlk ?_
    try dsimp only [List.set]
    walk_at "zz"
    refine z_dpm (x := vl W e + y * (o / ((Int.gcd o o' : Nat) : Int))) hW2 hq (by omega) ?_
    refine ⟨_, ptT W e (vl W e + y * (o / ((Int.gcd o o' : Nat) : Int))), rfl, put_but b2, upd_same, nd_pt ndW, fun p m => ?_, ?_, fun e2 => ?_⟩
    · rcases mem_pt m with z | ⟨z, _⟩
      · rw [z]
        refine ⟨hsh, hup, ?_⟩
        show Bits (B + 21) (vl W e + y * (o / ((Int.gcd o o' : Nat) : Int)))
        rw [ve]
        exact (bvT.mul bm1).add (hb.mul bm2)
      · exact hkW p z
    · have := len_pt (T := W) (e := e) (x := vl W e + y * (o / ((Int.gcd o o' : Nat) : Int)))
      omega
    · rw [vl_pt ndW, vl_tk hj]
      by_cases c : e2 = e
      · rw [if_pos c, c, if_pos rfl, ve, v0]
        rw [Int.zero_add]
      · rw [if_neg c, vW, if_neg (fun z => c z.symm), Int.add_zero]
  obtain ⟨o4, W, rfl, b2, hW2, ndW, hkW, lW, vW⟩ := I
  rw [List.take_length] at vW
  refine z_fix hW2 (fun oo => ?_)
  have sE : Same H (upd Hj D (.frz oo (.dT (enT V.int W)))) := Same.put (same_but hD fun a o ne e => b2 a o ne (s1 _ _ e)) hD
  have hE : Frz (upd Hj D (.frz oo (.dT (enT V.int W)))) D V.int W := Frz.new
  generalize (upd Hj D (.frz oo (.dT (enT V.int W)))) = HE at *
  have htE := sE _ _ ht
  have huE := sE _ _ hu
  try dsimp only [List.set]
  walk_at "zz"
  rename_i r H3 hr s3 er
  refine k r H3 (Same.trans sE s3) ⟨o * (o' / ((Int.gcd o o' : Nat) : Int)), D, W, er, ⟨hE.mono s3, ndW, hkW, by omega⟩, Int.mul_pos o0 m10, by rw [lcm]; exact lcm_dvd dv dv', N0, N1, fun e => ?_⟩
  rw [vW]
  have h1 := hv e
  have h2 := hvU e
  have a1 : (vl T e * (o' / ((Int.gcd o o' : Nat) : Int)) + vl U e * (o / ((Int.gcd o o' : Nat) : Int))) * N = (vl T e * N) * (o' / ((Int.gcd o o' : Nat) : Int)) + (vl U e * N) * (o / ((Int.gcd o o' : Nat) : Int)) := by grind
  rw [a1, h1, h2]
  have a2 : F e * o * (o' / ((Int.gcd o o' : Nat) : Int)) = F e * (o * (o' / ((Int.gcd o o' : Nat) : Int))) := by grind
  have a3 : G e * o' * (o / ((Int.gcd o o' : Nat) : Int)) = G e * (o' * (o / ((Int.gcd o o' : Nat) : Int))) := by grind
  rw [a2, a3, ← cross]
  grind
theorem c_law_sum (L : Lw K mg) : Cal P w K mg base 2 "_law_sum" (sp2 fs_lsu) [] := by
  obtain ⟨fd, F⟩ := L.d_law_sum
  exact ⟨⟨_, fd, ["a", "b"], [], ok_law_sum L F, L.g_law_sum, F.kp, F.bindsN (fun _ _ _ _ _ _ us hl => match us, hl with | [_, _], _ => rfl), .nil⟩⟩
theorem ok_law_top_of (L : Lw K mg) {fd : FuncData} (F : FunD K "_law_top_of" "_law_top_of" (defArgs s_law_top_of) (defBody s_law_top_of) (defScope s_law_top_of) (df_law_top_of.dvs K) (df_law_top_of.kws K) (He.fAd K ("_law_top_of", none)) fd) : FnOk P w K mg base (L2N.CX P w) 2 (He.fAd K ("_law_top_of", none)) fd (["a"] : List Str) (sp1 fs_lto) := by
  refine FunD.ok F sc_law_top_of len1 (fun cdv A outer s H vs Q E hr h => ?_)
  obtain ⟨a, rfl, h⟩ := h
  refine ⟨_, (pss_cons (ps_set (i := 1) sc_law_top_of.nd rfl (by first | exact Or.inl rfl | exact Or.inr rfl) (pe_c (c_law_in_order (K := K) L) hr (by decide) (L2N.takes_of rfl rfl rfl rfl) (pa_cons (pv 0) pa_nil)))
    (pss_cons (ps_set (i := 2) sc_law_top_of.nd rfl (by first | exact Or.inl rfl | exact Or.inr rfl) pe_dnewT)
    (pss_cons (ps_for (passes_of rfl) rfl (pi_listK (K := K) rfl (pv 1)) (pg_name (i := 3) sc_law_top_of.nd rfl (by first | exact Or.inl rfl | exact Or.inr rfl)) (pss_one (ps_if (pt_cmpR op_eq (pe_callB (callK rSumS (K := K) rfl (cr_sumS rfl)) (by rfl) L.f_sum (by decide +kernel) (pa_cons (pv 3) pa_nil)) (pe_callB (callK rSumS (K := K) rfl (cr_sumS rfl)) (by rfl) L.f_sum (by decide +kernel) (pa_cons (pe_ix (ix_seqK (K := K) rfl) (pv 1) pe_int (fun _ _ => rfl)) pa_nil)) (nomark _)) (pss_one (ps_dput (hu1 hr) (pv 2) (pv 3) (pe_dget (hu1 hr) (pe_ix (ix_seqK (K := K) rfl) (pv 0) pe_int (fun _ _ => rfl)) (pv 3) (fun _ _ => rfl)) (by rfl))) pss_nil)))
    (pss_one (ps_fix (ps_ret (pe_tup (pa_cons (pe_ix (ix_seqK (K := K) rfl) (pv 0) pe_int (fun _ _ => rfl)) (pa_cons (pv 2) pa_nil))))))))), ?_⟩
  rw [show L2.start (["a", "rows", "table", "ex"] : List Str) [a] = [some a, none, none, none] from rfl]
  obtain ⟨t, n, cc, F, N, B, S, dd, rfl, hLa, hS, hdg, k⟩ := h
  obtain ⟨o, d, T, ht, ⟨hFz, nd, hk, lT⟩, o0, dv, N0, N1, hv⟩ := id hLa
  try dsimp only [List.set]
  walk_at "zz"
  refine u_ino hLa hS (fun D1 H0 ys l s0 h0 hky cn ll => ?_)
  have edd : dgl l = dd := cn.dg.uniq hdg
  have ht0 := s0 _ _ ht
  have nz := la_nz o0 N0 hv
  try dsimp only [List.set]
  walk_at "zz"
  refine z_dnew (f := V.int) fun D hD => ?_
  have s1 : Same H0 (upd H0 D (.dT (enT V.int []))) := Same.new hD
  have e1 : (upd H0 D (.dT (enT V.int []))) D = some (.dT (enT V.int [])) := upd_same
  generalize (upd H0 D (.dT (enT V.int []))) = H1 at *
  have ht1 := s1 _ _ ht0
  have nd1 := frz_ne (hFz.mono s0) hD
  have nt1 := tup_ne ht0 hD
  have nD1 : D1 ≠ D := fun z => by
    rw [z, hD] at h0
    cases h0
  try dsimp only [List.set]
  walk_at "zz"
  refine z_foV (s1 _ _ h0) (fun i σ Hi => ∃ o4, σ = [some (V.ref t), some (V.ref D1), some (V.ref D), o4] ∧ But D H1 Hi ∧ Hi D = some (.dT (enT V.int (((l.take i).filter (fun e => decide (e.sum = dd))).map fun e => (e, vl T e))))) ⟨_, rfl, (fun _ _ _ e => e), e1⟩ (fun i σ Hi I => ?_) (fun i x σ Hi hx I => ?_) (fun σ Hi I => ?_)
  · obtain ⟨_, _, b, _⟩ := I
    exact b _ _ nD1 (s1 _ _ h0)
  · obtain ⟨o4, rfl, b, hW⟩ := I
    have sH : Same H0 Hi := same_but hD fun a o ne e => b a o ne (s1 _ _ e)
    have hkyi := hky.mono sH
    have li : i < l.length := by
      rw [← hky.1]
      exact (List.getElem?_eq_some_iff.mp hx).1
    obtain ⟨q, rfl, hq⟩ := hkyi.2 i x _ hx (List.getElem?_eq_getElem li)
    have hle : l[i]? = some l[i] := List.getElem?_eq_getElem li
    generalize l[i] = e at *
    have hti := b _ _ nt1 ht1
    have hFi : Frz Hi d V.int T := ((hFz.mono s0).mono s1).elim fun o e => ⟨o, b _ _ nd1 e⟩
    have h0i := sH _ _ h0
    obtain ⟨e0, rl, el0⟩ : ∃ e0 rl, l = e0 :: rl := by
      cases l with
      | nil => simp at li
      | cons a r => exact ⟨a, r, rfl⟩
    obtain ⟨q0, hy0, hq0⟩ := hkyi.at (k := 0) (e := e0) (by rw [el0]; rfl)
    have hlk := lk_pos nd ((nz e).mpr ((cn.mem e).mp (List.mem_of_getElem? hle)))
    have ed0 : e0.sum = dd := by
      rw [← edd, el0]
      rfl
    have no : lkT (((l.take i).filter (fun e => decide (e.sum = dd))).map fun e => (e, vl T e)) e = none := by
      refine lkT_none.mpr fun p m z => ?_
      obtain ⟨f, mf, rfl⟩ := List.mem_map.mp m
      have mf2 := (List.mem_filter.mp mf).1
      have nd2 : (l.take i ++ [e]).Nodup := by
        rw [← take_succ' hle]
        exact cn.nd.sublist (List.take_sublist _ _)
      rw [List.nodup_append] at nd2
      exact nd2.2.2 f mf2 e (by simp) z
    try dsimp only [List.set]
    walk_at "zz"
    refine z_sumT hq ?_
    try dsimp only [List.set]
    walk_at "zz"
    refine z_ixLst h0i (v := .ref q0) (atI_nat (j := 0) hy0) ?_
    try dsimp only [List.set]
    walk_at "zz"
    refine z_sumT hq0 ?_
    try dsimp only [List.set]
    walk_at "zz"
    refine z_d2 (fun c => ?_) (fun c => ?_)
    · try dsimp only [List.set]
      walk_at "zz"
      refine z_dgf hFi hq hlk ?_
      try dsimp only [List.set]
      walk_at "zz"
      refine z_dpm (x := vl T e) hW hq (by
        have l2 := List.length_filter_le (fun e : Ex => decide (e.sum = dd)) (l.take i)
        rw [List.length_take] at l2
        rw [List.length_map]
        omega) ?_
      refine ⟨_, rfl, put_but b, ?_⟩
      rw [upd_same, pt_new no, take_succ' hle, List.filter_append, List.filter_cons_of_pos (by rw [← ed0]; exact decide_eq_true c), List.map_append]
      rfl
    · try dsimp only [List.set]
      walk_at "zz"
      refine ⟨_, rfl, b, ?_⟩
      rw [hW, take_succ' hle, List.filter_append, List.filter_cons_of_neg (by rw [← ed0]; simpa using c)]
      simp
  obtain ⟨o4, rfl, b, hW⟩ := I
  rw [hky.1, List.take_length] at hW
  refine z_fix hW (fun oo => ?_)
  have sE : Same H (upd Hi D (.frz oo (.dT (enT V.int ((l.filter (fun e => decide (e.sum = dd))).map fun e => (e, vl T e)))))) := Same.trans s0 (Same.put (same_but hD fun a o ne e => b a o ne (s1 _ _ e)) hD)
  have hE : Frz (upd Hi D (.frz oo (.dT (enT V.int ((l.filter (fun e => decide (e.sum = dd))).map fun e => (e, vl T e)))))) D V.int ((l.filter (fun e => decide (e.sum = dd))).map fun e => (e, vl T e)) := Frz.new
  generalize (upd Hi D (.frz oo (.dT (enT V.int ((l.filter (fun e => decide (e.sum = dd))).map fun e => (e, vl T e)))))) = HE at *
  have htE := sE _ _ ht
  try dsimp only [List.set]
  walk_at "zz"
  rename_i r H3 hr s3 er
  have ndf : (l.filter (fun e => decide (e.sum = dd))).Nodup := cn.nd.sublist List.filter_sublist
  refine k r H3 (Same.trans sE s3) ⟨o, D, _, er, ⟨hE.mono s3, ?_, fun p m => ?_, ?_⟩, o0, dv, N0, N1, fun e => ?_⟩
  · unfold Nd
    rw [List.map_map]
    have : ((fun x : Ex × Int => x.1) ∘ fun e : Ex => (e, vl T e)) = id := rfl
    rw [this, List.map_id]
    exact ndf
  · obtain ⟨f, mf, rfl⟩ := List.mem_map.mp m
    have m2 := (List.mem_filter.mp mf).1
    have hl := lk_pos nd ((nz f).mpr ((cn.mem f).mp m2))
    exact hk _ (lkT_some hl)
  · have l2 := List.length_filter_le (fun e : Ex => decide (e.sum = dd)) l
    rw [List.length_map]
    omega
  · rw [vl_fn ndf]
    unfold S15.hp
    by_cases c : e.sum = dd
    · rw [if_pos c]
      by_cases c2 : e ∈ l
      · rw [if_pos (List.mem_filter.mpr ⟨c2, decide_eq_true c⟩)]
        exact hv e
      · rw [if_neg (fun m => c2 (List.mem_filter.mp m).1)]
        have : F e = 0 := Classical.byContradiction fun z => c2 ((cn.mem e).mpr z)
        rw [this]
        simp
    · rw [if_neg c, if_neg (fun m : e ∈ l.filter (fun e => decide (e.sum = dd)) => c (of_decide_eq_true (List.mem_filter.mp m).2))]
      simp
theorem c_law_top_of (L : Lw K mg) : Cal P w K mg base 2 "_law_top_of" (sp1 fs_lto) [] := by
  obtain ⟨fd, F⟩ := L.d_law_top_of
  exact ⟨⟨_, fd, ["a"], [], ok_law_top_of L F, L.g_law_top_of, F.kp, F.bindsN (fun _ _ _ _ _ _ us hl => match us, hl with | [_], _ => rfl), .nil⟩⟩
end
end T
set_option maxHeartbeats 4000000
namespace T
open PySem PySem.Spec PyProof.Rows L2 Z
open S15
def fs_ldr : F5 := fun a b c e f H Q _ => ∃ (p : Addr) (k : Int) (m n : Nat) (w : Bool), a = .ref p ∧ b = .int k ∧ c = .int (m : Int) ∧ e = .int (n : Int) ∧ f = .bl w ∧ IsPool H p ∧ 0 ≤ k ∧ k ≤ 10 ∧ m ≤ 4 ∧ n ≤ 6 ∧ ∀ r H' F, Same H H' → La H' r n 40 F 6 8 4 → Q (.ref r) H'
theorem u_ldr {H : Hp} {Q : VK} {E : XK} {p : Addr} {k : Int} {m n : Nat} {w : Bool} (h : IsPool H p) (k0 : 0 ≤ k) (k1 : k ≤ 10) (hm : m ≤ 4) (hn : n ≤ 6) (q : ∀ r H' F, Same H H' → La H' r n 40 F 6 8 4 → Q (.ref r) H') : sp5 fs_ldr [.ref p, .int k, .int (m : Int), .int (n : Int), .bl w] H Q E := ⟨_, _, _, _, _, rfl, p, k, m, n, w, rfl, rfl, rfl, rfl, rfl, h, k0, k1, hm, hn, q⟩
theorem la_mk {H : Hp} {r D : Addr} {n : Nat} {cc o N : Int} {W : List (Ex × Int)} {B S : Nat} (er : H r = some (.tup [.int o, .ref D])) (h : Ta H D n cc W B S) (o0 : 0 < o) (dv : o ∣ N) (N0 : 0 < N) (N1 : N ≤ 1000000) : La H r n cc (fun e => vl W e * (N / o)) N B S :=
  ⟨o, D, W, er, h, o0, dv, N0, N1, fun e => by rw [Int.mul_assoc, Int.ediv_mul_cancel dv]⟩
local macro_rules | `(tactic| walk_at "z") => `(tactic| with_reducible refine z_fldS ?_)
local macro_rules | `(tactic| walk_at "z") => `(tactic| ((with_reducible refine' z_fdt ?zc1 ?zc2 ?zl2 ?_); (case zc1 => exact Lw.cl_Ratio (by assumption)); (case zc2 => exact Lw.na_Ratio_top (by assumption)); (case zl2 => walk_at "up")))
local macro_rules | `(tactic| walk_at "z") => `(tactic| ((with_reducible refine' z_fdb ?zc1 ?zc2 ?zl2 ?_); (case zc1 => exact Lw.cl_Ratio (by assumption)); (case zc2 => exact Lw.na_Ratio_bottom (by assumption)); (case zl2 => walk_at "up")))
local macro_rules | `(tactic| walk_at "z") => `(tactic| ((with_reducible refine' z_isTup ?zl1 ?_); (case zl1 => walk_at "up")))
local macro_rules | `(tactic| walk_at "z") => `(tactic| ((with_reducible refine' z_isR ?zl1 ?zl2 ?zl3 ?_); (case zl1 => exact Lw.in_Ratio (by assumption)); (case zl2 => exact Lw.kt_Ratio_Ratio (by assumption)); (case zl3 => walk_at "up")))
local macro_rules | `(tactic| walk_at "z") => `(tactic| ((with_reducible refine' z_isFm ?zl1 ?zl2 ?zl3 ?_); (case zl1 => exact Lw.in_Form (by assumption)); (case zl2 => exact Lw.kt_Form_Form (by assumption)); (case zl3 => walk_at "up")))
local macro_rules | `(tactic| walk_at "z") => `(tactic| with_reducible refine u_who ?_)
local macro_rules | `(tactic| walk_at "z") => `(tactic| with_reducible refine u_gcd ?_)
local macro_rules | `(tactic| walk_at "up") => `(tactic| first
  | assumption
  | (refine' IsR.mono (by assumption) ?zup; case zup => walk_at "up")
  | (refine' IsE.mono (by assumption) ?zup; case zup => walk_at "up")
  | (refine' Same.at (by assumption) ?zup; case zup => walk_at "up")
  | (refine' SqL.of ?zup; case zup => walk_at "up")
  | (refine' L2.Same.seq (by assumption) ?zup; case zup => walk_at "up"))
local macro_rules | `(tactic| walk_at "z") => `(tactic| first
  | ((with_reducible refine' z_var ?zvh ?_); (case zvh => exact rfl))
  | with_reducible refine z_c ?_
  | with_reducible refine z_cons ?_
  | with_reducible refine z_nil ?_
  | with_reducible refine z_op ?_
  | with_reducible refine z_nx ?_
  | with_reducible refine z_seq ?_
  | with_reducible refine z_asg ?_
  | with_reducible refine z_asgG ?_
  | with_reducible refine z_call ?_
  | with_reducible refine z_sq0 ?_
  | with_reducible refine z_sq1 ?_
  | with_reducible refine z_ifS ?_
  | with_reducible refine z_test ?_
  | with_reducible refine z_tb ?_
  | with_reducible refine z_bl ?_
  | with_reducible refine z_blI ?_
  | with_reducible refine z_ret ?_
  | with_reducible refine z_rt ?_
  | with_reducible refine z_T ?_
  | with_reducible refine z_F ?_
  | with_reducible refine z_add ?_
  | with_reducible refine z_sub ?_
  | with_reducible refine z_neg ?_
  | with_reducible refine z_un ?_
  | with_reducible refine z_eqI ?_
  | with_reducible refine z_neI ?_
  | with_reducible refine z_lt ?_
  | with_reducible refine z_le ?_
  | with_reducible refine z_gt ?_
  | with_reducible refine z_ge ?_
  | with_reducible refine z_not ?_
  | with_reducible refine z_and ?_
  | with_reducible refine z_or ?_
  | with_reducible refine z_andV ?_
  | with_reducible refine z_orV ?_
  | with_reducible refine z_notV ?_
  | with_reducible refine z_if ?_
  | with_reducible refine z_cb ?_
  | with_reducible refine z_int1 ?_
  | with_reducible refine z_intb ?_
  | with_reducible refine z_abs ?_
  | with_reducible refine z_gcd ?_
  | with_reducible refine z_isi_ii ?_
  | with_reducible refine z_isi_ib ?_
  | with_reducible refine z_next ?_
  | with_reducible refine z_drop ?_
  | with_reducible refine z_par ?_
  | with_reducible refine z_par2 ?_
  | with_reducible refine z_tupN ?_
  | with_reducible refine z_lstN ?_
  | ((with_reducible refine' z_nt ?zl1 ?_); (case zl1 => exact Nat.le_of_ble_eq_true rfl); intro p H' hp hs he)
  | ((with_reducible refine' z_gtup ?zl1 ?zl2 ?_); (case zl1 => walk_at "up"); (case zl2 => exact rfl))
  | with_reducible refine z_bk ?_
  | with_reducible refine z_ct ?_
  | with_reducible refine z_break ?_
  | with_reducible refine z_cont ?_
  | with_reducible refine z_retN ?_
  | with_reducible refine z_nn ?_
  | with_reducible refine z_mk ?_
  | with_reducible refine z_gn ?_
  | with_reducible refine z_gcons ?_
  | with_reducible refine z_gnil ?_
  | with_reducible refine z_mt ?_
  | with_reducible refine z_mko ?_
  | with_reducible refine z_for2 ?_
  | with_reducible refine z_ownI ?_
  | ((with_reducible refine' z_lenL ?zl1 ?_); (case zl1 => walk_at "up"))
  | ((with_reducible refine' z_ixT ?zl1 ?zl2 ?_); (case zl1 => walk_at "up"); (case zl2 => exact rfl))
  | ((with_reducible refine' z_mulL ?zl1 ?zl2 ?_); (case zl1 => omega); (case zl2 => omega))
  | ((with_reducible refine' z_mulR ?zl1 ?zl2 ?_); (case zl1 => omega); (case zl2 => omega))
  | ((with_reducible refine' z_divS ?zl1 ?zl2 ?_); (case zl1 => omega); (case zl2 => omega))
  | ((with_reducible refine' z_mulW ?zl1 ?zl2 ?zl3 ?zl4 ?_); (case zl1 => omega); (case zl2 => omega); (case zl3 => omega); (case zl4 => omega))
  | ((with_reducible refine' z_divW ?zl1 ?zl2 ?_); (case zl1 => omega); (case zl2 => omega)))
local macro_rules | `(tactic| walk_at "zz") => `(tactic| repeat (walk_at "z"))
local macro_rules | `(tactic| walk_at "z") => `(tactic| with_reducible refine z_lstN ?_)
local macro_rules | `(tactic| walk_at "z") => `(tactic| with_reducible refine z_p6 ?_)
local macro_rules | `(tactic| walk_at "z") => `(tactic| with_reducible refine z_p12 ?_)
local macro_rules | `(tactic| walk_at "z") => `(tactic| with_reducible refine z_p13 ?_)
local macro_rules | `(tactic| walk_at "z") => `(tactic| with_reducible refine z_calln ?_)
local macro_rules | `(tactic| walk_at "z") => `(tactic| with_reducible refine z_xfS ?_)
local macro_rules | `(tactic| walk_at "z") => `(tactic| with_reducible refine z_lcS ?_)
local macro_rules | `(tactic| walk_at "z") => `(tactic| with_reducible refine z_lcRS ?_)
local macro_rules | `(tactic| walk_at "z") => `(tactic| with_reducible refine z_lcZS ?_)
local macro_rules | `(tactic| walk_at "z") => `(tactic| with_reducible refine z_foS ?_)
local macro_rules | `(tactic| walk_at "z") => `(tactic| with_reducible refine z_for1 ?_)
local macro_rules | `(tactic| walk_at "z") => `(tactic| with_reducible refine z_tsl ?_)
local macro_rules | `(tactic| walk_at "z") => `(tactic| with_reducible refine z_np ?_)
local macro_rules | `(tactic| walk_at "z") => `(tactic| with_reducible refine z_pt ?_)
local macro_rules | `(tactic| walk_at "z") => `(tactic| with_reducible refine z_pti ?_)
local macro_rules | `(tactic| walk_at "z") => `(tactic| with_reducible refine z_catI ?_)
local macro_rules | `(tactic| walk_at "z") => `(tactic| with_reducible refine z_isNI ?_)
local macro_rules | `(tactic| walk_at "z") => `(tactic| with_reducible refine z_isNN ?_)
local macro_rules | `(tactic| walk_at "z") => `(tactic| with_reducible refine z_notNI ?_)
local macro_rules | `(tactic| walk_at "z") => `(tactic| with_reducible refine z_notNN ?_)
local macro_rules | `(tactic| walk_at "z") => `(tactic| with_reducible refine z_gsub ?_)
local macro_rules | `(tactic| walk_at "z") => `(tactic| with_reducible refine z_isNb ?_)
local macro_rules | `(tactic| walk_at "z") => `(tactic| with_reducible refine z_notNb ?_)
local macro_rules | `(tactic| walk_at "z") => `(tactic| ((with_reducible refine' z_nlR ?zl1 ?_); (case zl1 => exact Nat.le_of_ble_eq_true rfl); intro p H' hp hs he))
local macro_rules | `(tactic| walk_at "z") => `(tactic| ((with_reducible refine' z_repR ?zl1 ?zl2 ?_); (case zl1 => omega); (case zl2 => omega)))
local macro_rules | `(tactic| walk_at "z") => `(tactic| ((with_reducible refine' z_repL ?zl1 ?zl2 ?_); (case zl1 => omega); (case zl2 => omega)))
local macro_rules | `(tactic| walk_at "z") => `(tactic| ((with_reducible refine' z_lenLst ?zl1 ?_); (case zl1 => walk_at "up")))
local macro_rules | `(tactic| walk_at "z") => `(tactic| ((with_reducible refine' z_cat ?zl1 ?zl2 ?zl3 ?_); (case zl1 => walk_at "up"); (case zl2 => walk_at "up"); (case zl3 => (simp only [List.length_map, List.length_cons, List.length_nil, List.length_append, List.length_replicate]; omega)); intro p H' hp hs he))
local macro_rules | `(tactic| walk_at "z") => `(tactic| with_reducible refine z_sfl ?_)
local macro_rules | `(tactic| walk_at "z") => `(tactic| with_reducible refine z_lcES ?_)
local macro_rules | `(tactic| walk_at "z") => `(tactic| with_reducible refine z_lcMS ?_)
local macro_rules | `(tactic| walk_at "z") => `(tactic| with_reducible refine z_foES ?_)
local macro_rules | `(tactic| walk_at "z") => `(tactic| with_reducible refine z_fo3S ?_)
local macro_rules | `(tactic| walk_at "z") => `(tactic| with_reducible refine z_sta ?_)
local macro_rules | `(tactic| walk_at "z") => `(tactic| with_reducible refine z_sta1 ?_)
local macro_rules | `(tactic| walk_at "z") => `(tactic| with_reducible refine z_lcTS ?_)
local macro_rules | `(tactic| walk_at "z") => `(tactic| with_reducible refine z_foTS ?_)
local macro_rules | `(tactic| walk_at "z") => `(tactic| with_reducible refine z_revTS ?_)
local macro_rules | `(tactic| walk_at "z") => `(tactic| with_reducible refine z_max2 ?_)
local macro_rules | `(tactic| walk_at "z") => `(tactic| ((with_reducible refine' z_fldt ?zc1 ?zc2 ?zl1 ?zl2 ?_); (case zc1 => exact Lw.cl_Ratio (by assumption)); (case zc2 => exact Lw.na_Ratio_top (by assumption)); (case zl1 => exact rfl); (case zl2 => walk_at "up")))
local macro_rules | `(tactic| walk_at "z") => `(tactic| ((with_reducible refine' z_fldb ?zc1 ?zc2 ?zl1 ?zl2 ?_); (case zc1 => exact Lw.cl_Ratio (by assumption)); (case zc2 => exact Lw.na_Ratio_bottom (by assumption)); (case zl1 => exact rfl); (case zl2 => walk_at "up")))
local macro_rules | `(tactic| walk_at "z") => `(tactic| ((with_reducible refine' u_mtF ?zl1 ?_); (case zl1 => walk_at "up")))
local macro_rules | `(tactic| walk_at "z") => `(tactic| ((with_reducible refine' z_ixLst ?zl1 ?zl2 ?_); (case zl1 => walk_at "up"); (case zl2 => exact rfl)))
local macro_rules | `(tactic| walk_at "z") => `(tactic| with_reducible refine z_yes ?_)
local macro_rules | `(tactic| walk_at "z") => `(tactic| with_reducible refine z_if1 ?_)
local macro_rules | `(tactic| walk_at "z") => `(tactic| with_reducible refine z_dg ?_)
local macro_rules | `(tactic| walk_at "z") => `(tactic| with_reducible refine z_di ?_)
local macro_rules | `(tactic| walk_at "z") => `(tactic| with_reducible refine z_dp ?_)
local macro_rules | `(tactic| walk_at "z") => `(tactic| with_reducible refine z_foKS ?_)
local macro_rules | `(tactic| walk_at "z") => `(tactic| with_reducible refine z_foPS ?_)
local macro_rules | `(tactic| walk_at "z") => `(tactic| with_reducible refine z_foTS ?_)
local macro_rules | `(tactic| walk_at "z") => `(tactic| with_reducible refine z_lcKS ?_)
local macro_rules | `(tactic| walk_at "z") => `(tactic| with_reducible refine z_lcTS ?_)
local macro_rules | `(tactic| walk_at "z") => `(tactic| with_reducible refine z_dcTS ?_)
local macro_rules | `(tactic| walk_at "z") => `(tactic| with_reducible refine z_dcPS ?_)
local macro_rules | `(tactic| walk_at "z") => `(tactic| with_reducible refine z_fixV ?_)
local macro_rules | `(tactic| walk_at "z") => `(tactic| with_reducible refine z_mkk ?_)
local macro_rules | `(tactic| walk_at "z") => `(tactic| with_reducible refine z_sta ?_)
local macro_rules | `(tactic| walk_at "z") => `(tactic| with_reducible refine z_sta1 ?_)
local macro_rules | `(tactic| walk_at "z") => `(tactic| with_reducible refine z_ckw ?_)
local macro_rules | `(tactic| walk_at "z") => `(tactic| with_reducible refine z_cmpD ?_)
local macro_rules | `(tactic| walk_at "z") => `(tactic| with_reducible refine z_pk1 ?_)
local macro_rules | `(tactic| walk_at "z") => `(tactic| with_reducible refine z_tBD ?_)
local macro_rules | `(tactic| walk_at "z") => `(tactic| ((with_reducible refine' z_fl ?zc1 ?zc2 ?zl1 ?zl2 ?_); (case zc1 => exact Lw.cl_Form (by assumption)); (case zc2 => exact Lw.na_Form_letters (by assumption)); (case zl1 => exact rfl); (case zl2 => walk_at "up")))
local macro_rules | `(tactic| walk_at "z") => `(tactic| ((with_reducible refine' z_ft ?zc1 ?zc2 ?zl1 ?zl2 ?_); (case zc1 => exact Lw.cl_Form (by assumption)); (case zc2 => exact Lw.na_Form_terms (by assumption)); (case zl1 => exact rfl); (case zl2 => walk_at "up")))
local macro_rules | `(tactic| walk_at "z") => `(tactic| ((with_reducible refine' z_fd ?zc1 ?zc2 ?zl1 ?zl2 ?_); (case zc1 => exact Lw.cl_Form (by assumption)); (case zc2 => exact Lw.na_Form_degree (by assumption)); (case zl1 => exact rfl); (case zl2 => walk_at "up")))
theorem sameFH {H H1 H2 : Hp} (h : Same H1 H2) (e : Same H H1) : Same H H2 := e.trans h
local macro_rules | `(tactic| walk_at "sm") => `(tactic| first
  | assumption
  | exact fun _ _ h => h
  | (refine' sameFH (by assumption) ?zsm; case zsm => walk_at "sm"))
local macro_rules | `(tactic| walk_at "up") => `(tactic| first
  | assumption
  | (with_reducible refine' IsR.mono (by assumption) ?zup; case zup => walk_at "up")
  | (with_reducible refine' Fr.mono (by assumption) ?zup; case zup => walk_at "up")
  | (with_reducible refine' IsFm.mono (by assumption) ?zup; case zup => walk_at "up")
  | (with_reducible refine' Frz.mono (by assumption) ?zup; case zup => walk_at "up")
  | (with_reducible refine' Fo.mono (by assumption) ?zup; case zup => walk_at "up")
  | (with_reducible refine' La.mono (by assumption) ?zup; case zup => walk_at "up")
  | (with_reducible refine' Ta.mono (by assumption) ?zup; case zup => walk_at "up")
  | (with_reducible refine' PrL.mono (by assumption) ?zup; case zup => walk_at "up")
  | (with_reducible refine' EnA.mono (by assumption) ?zup; case zup => walk_at "up")
  | (with_reducible refine' Srt.mono (by assumption) ?zup; case zup => walk_at "up")
  | (with_reducible refine' Same.at (by assumption) ?zup; case zup => walk_at "up")
  | fail)
section
variable {P : Program} {w : World} {K : Frag} {mg : Str → Option Value} {base : Heap}
theorem ok_law_product (L : Lw K mg) {fd : FuncData} (F : FunD K "_law_product" "_law_product" (defArgs s_law_product) (defBody s_law_product) (defScope s_law_product) (df_law_product.dvs K) (df_law_product.kws K) (He.fAd K ("_law_product", none)) fd) : FnOk P w K mg base (L2N.CX P w) 1 (He.fAd K ("_law_product", none)) fd (["a", "b"] : List Str) (sp2 fs_lpr) := by
  refine FunD.ok F sc_law_product len2 (fun cdv A outer s H vs Q E hr h => ?_)
  obtain ⟨a, b, rfl, h⟩ := h
  refine ⟨_, (pss_cons (ps_set (i := 2) sc_law_product.nd rfl (by first | exact Or.inl rfl | exact Or.inr rfl) pe_dnewT)
    (pss_cons (ps_for (passes_of rfl) rfl (pi_keysT (pe_ix (ix_seqK (K := K) rfl) (pv 0) pe_int (fun _ _ => rfl))) (pg_name (i := 3) sc_law_product.nd rfl (by first | exact Or.inl rfl | exact Or.inr rfl)) (pss_one (ps_for (passes_of rfl) rfl (pi_keysT (pe_ix (ix_seqK (K := K) rfl) (pv 1) pe_int (fun _ _ => rfl))) (pg_name (i := 4) sc_law_product.nd rfl (by first | exact Or.inl rfl | exact Or.inr rfl)) (pss_cons (ps_set (i := 5) sc_law_product.nd rfl (by first | exact Or.inl rfl | exact Or.inr rfl) (pe_callTy (callK rTup1 (K := K) rfl call_tuple_of) (by rfl) L.f_tuple (by decide +kernel) (pa_cons (pe_lc (own := [("k", 6)]) (g := (gName 6)) (tt := tYes) rfl sc_law_product.nd (pi_range1 (by rfl) L.f_range (pa_cons (pe_callB (callK rLen1 (K := K) rfl o_len) (by rfl) L.f_len (by decide +kernel) (pa_cons (pv 3) pa_nil)) pa_nil)) (blkOk_by (N := ["a", "b", "table", "one", "two", "ex", "k"]) (sc := defScope s_law_product) (by decide +kernel)) (fun _ _ _ _ _ => pg_name (i := 6) sc_law_product.nd rfl (Or.inl rfl)) (fun _ _ _ _ _ => pts_nil) (fun _ _ _ _ _ => (pe_op o_cat (pe_ix (ix_seqK (K := K) rfl) (pv 3) (pv 6) (fun _ _ => rfl)) (pe_ix (ix_seqK (K := K) rfl) (pv 4) (pv 6) (fun _ _ => rfl))))) pa_nil)))
    (pss_one (ps_dput (hu1 hr) (pv 2) (pv 5) (pe_op o_cat (pe_dget2 (hu1 hr) (pv 2) (pv 5) pe_int ⟨by rfl, by rfl, by rfl, by rfl⟩) (pe_op o_rep (pe_dget (hu1 hr) (pe_ix (ix_seqK (K := K) rfl) (pv 0) pe_int (fun _ _ => rfl)) (pv 3) (fun _ _ => rfl)) (pe_dget (hu1 hr) (pe_ix (ix_seqK (K := K) rfl) (pv 1) pe_int (fun _ _ => rfl)) (pv 4) (fun _ _ => rfl)))) (by rfl)))))))
    (pss_one (ps_fix (ps_ret (pe_tup (pa_cons (pe_op o_rep (pe_ix (ix_seqK (K := K) rfl) (pv 0) pe_int (fun _ _ => rfl)) (pe_ix (ix_seqK (K := K) rfl) (pv 1) pe_int (fun _ _ => rfl))) (pa_cons (pv 2) pa_nil)))))))), ?_⟩
  rw [show L2.start (["a", "b", "table", "one", "two", "ex", "k"] : List Str) [a, b] = [some a, some b, none, none, none, none, none] from rfl]
  obtain ⟨t, u, n, cc, F, G, C, N, B, S, S', L0, M0, rfl, rfl, hLa, hLb, hL, hM, hC, hSS, hS, hS', hB, hn, hNN, k⟩ := h
  obtain ⟨o, d, T, ht, ⟨hFz, nd, hk, lT⟩, o0, dv, N0, N1, hv⟩ := id hLa
  obtain ⟨o', d', U, hu, ⟨hUz, ndU, hkU, lU⟩, o0', dv', _, _, hvU⟩ := id hLb
  have oN := Int.le_of_dvd N0 dv
  have oN' := Int.le_of_dvd N0 dv'
  have lTU : T.length * U.length ≤ S * S' := Nat.mul_le_mul lT lU
  try dsimp only [List.set]
  walk_at "zz"
  refine z_dnew (f := V.int) fun D hD => ?_
  have s1 : Same H (upd H D (.dT (enT V.int []))) := Same.new hD
  have e1 : (upd H D (.dT (enT V.int []))) D = some (.dT (enT V.int [])) := upd_same
  generalize (upd H D (.dT (enT V.int []))) = H1 at *
  have ht1 := s1 _ _ ht
  have hu1 := s1 _ _ hu
  have nd1 := frz_ne hFz hD
  have nd2 := frz_ne hUz hD
  have nt1 := tup_ne ht hD
  have nu1 := tup_ne hu hD
  try dsimp only [List.set]
  walk_at "zz"
  refine z_foK (fun i σ Hi => ∃ o3 o4 o5 o6 W, σ = [some (V.ref t), some (V.ref u), some (V.ref D), o3, o4, o5, o6] ∧ But D H1 Hi ∧ Hi D = some (.dT (enT V.int W)) ∧ Nd W ∧ (∀ p, p ∈ W → Sh n p.1 ∧ ∀ x, x ∈ p.1 → x ≤ cc + cc) ∧ W.length ≤ i * U.length ∧ ∀ e, vl W e = cv (T.take i) U e) (hFz.mono s1) ⟨_, _, _, _, [], rfl, (fun _ _ _ e => e), e1, nd_nil, (fun p m => nomatch m), by simp, fun e => rfl⟩ (fun o ho i σ Hi I => ?_) (fun i e y q σ Hi hi hq I => ?_) (fun σ Hi I => ?_)
  · obtain ⟨_, _, _, _, W, _, b, _⟩ := I
    exact b _ _ nd1 ho
  · obtain ⟨o3, o4, o5, o6, W, rfl, b, hW, ndW, kW, cW, vW⟩ := I
    obtain ⟨he, heu, by_⟩ := hk _ (List.mem_of_getElem? hi)
    have hlk := lkT_mem nd (List.mem_of_getElem? hi)
    dsimp only at he heu by_ hlk
    have iT : i < T.length := (List.getElem?_eq_some_iff.mp hi).1
    have hui := b _ _ nu1 hu1
    have hUi : Frz Hi d' V.int U := (hUz.mono s1).elim fun o e => ⟨o, b _ _ nd2 e⟩
    have nq : q ≠ D := fun z => by
      rw [z, hW] at hq
      cases hq
    try dsimp only [List.set]
    walk_at "zz"
    refine z_foK (fun j σ Hj => ∃ o4 o5 o6 W, σ = [some (V.ref t), some (V.ref u), some (V.ref D), some (V.ref q), o4, o5, o6] ∧ But D Hi Hj ∧ Hj D = some (.dT (enT V.int W)) ∧ Nd W ∧ (∀ p, p ∈ W → Sh n p.1 ∧ ∀ x, x ∈ p.1 → x ≤ cc + cc) ∧ W.length ≤ i * U.length + j ∧ ∀ k, vl W k = cv (T.take i) U k + y * sw (fun f => if S15.ad e f = k then 1 else 0) (U.take j)) hUi ⟨_, _, _, W, rfl, (fun _ _ _ e => e), hW, ndW, kW, cW, fun k => ?_⟩ (fun o ho j σ Hj I => ?_) (fun j g y2 q2 σ Hj hj hq2 I => ?_) (fun σ Hj I => ?_)
    · rw [vW k]
      show _ = _ + y * 0
      omega
    · obtain ⟨_, _, _, W2, _, b2, _⟩ := I
      exact b2 _ _ nd2 ho
    · obtain ⟨o4, o5, o6, W2, rfl, b2, hW2, ndW2, kW2, cW2, vW2⟩ := I
      obtain ⟨hg, hgu, bg⟩ := hkU _ (List.mem_of_getElem? hj)
      have hlk2 := lkT_mem ndU (List.mem_of_getElem? hj)
      dsimp only at hg hgu bg hlk2
      have jU : j < U.length := (List.getElem?_eq_some_iff.mp hj).1
      have hqj := b2 _ _ nq hq
      have htj := b2 _ _ nt1 (b _ _ nt1 ht1)
      have huj := b2 _ _ nu1 hui
      have hFj : Frz Hj d V.int T := (hFz.mono s1).elim fun o e => ⟨o, b2 _ _ nd1 (b _ _ nd1 e)⟩
      have hUj : Frz Hj d' V.int U := hUi.elim fun o e => ⟨o, b2 _ _ nd2 e⟩
      try dsimp only [List.set]
      walk_at "zz"
      refine z_lenT hqj ?_
      try dsimp only [List.set]
      walk_at "zz"
      rw [List.length_map]
      refine z_lcR (fun i => V.int (e.getD i 0 + g.getD i 0)) (by rw [he.1]; omega) (by rw [he.1]; omega) (fun m H4 Nx hm s4 cc4 => ⟨rfl, ?_⟩) (fun D2 H4 hD2 s4 h4 => ?_)
      · have l1 : m < e.length := by omega
        have l2 : m < g.length := by rw [hg.1, ← he.1]; exact l1
        have a1 : atI (e.map V.int) (m : Int) = some (.int (e.getD m 0)) := atI_nat (by rw [List.getElem?_map, List.getD_eq_getElem?_getD, List.getElem?_eq_getElem l1]; rfl)
        have a2 : atI (g.map V.int) (m : Int) = some (.int (g.getD m 0)) := atI_nat (by rw [List.getElem?_map, List.getD_eq_getElem?_getD, List.getElem?_eq_getElem l2]; rfl)
        try dsimp only [List.set]
        walk_at "zz"
        refine z_ixT (s4 _ _ hqj) a1 ?_
        try dsimp only [List.set]
        walk_at "zz"
        refine z_ixT (s4 _ _ hq2) a2 ?_
        try dsimp only [List.set]
        walk_at "zz"
        exact cc4 _ (fun _ _ h => h)
      · rw [show ((e.length : Int)).toNat = n by rw [he.1]; omega, ad_map he.1 hg.1] at h4
        try dsimp only [List.set]
        walk_at "zz"
        refine z_tup1L h4 (fun pt H5 hpt s5 h5 => ?_)
        have s45 := Same.trans s4 s5
        have hW5 := s45 _ _ hW2
        have ht5 := s45 _ _ htj
        have hu5 := s45 _ _ huj
        have hq5 := s45 _ _ hqj
        have hq25 := s45 _ _ hq2
        try dsimp only [List.set]
        walk_at "zz"
        refine z_dg2 rfl (isd_m hW5) ?_
        try dsimp only [List.set]
        walk_at "zz"
        refine z_dg3 hW5 h5 ?_
        rw [getd_int ndW2]
        try dsimp only [List.set]
        walk_at "zz"
        refine z_dgf (hFj.mono s45) hq5 hlk ?_
        try dsimp only [List.set]
        walk_at "zz"
        refine z_dgf (hUj.mono s45) hq25 hlk2 ?_
        try dsimp only [List.set]
        walk_at "zz"
        refine z_repU0 by_ bg (by omega) ?_
        try dsimp only [List.set]
        walk_at "zz"
        have ls : i * U.length + j < 16777216 := by
          have h2 : (i + 1) * U.length ≤ T.length * U.length := Nat.mul_le_mul_right _ (by omega)
          rw [Nat.succ_mul] at h2
          omega
        refine z_dpm (x := vl W2 (S15.ad e g) + y * y2) hW5 h5 (by omega) ?_
        refine ⟨_, _, _, ptT W2 (S15.ad e g) (vl W2 (S15.ad e g) + y * y2), rfl, put_but (b2.trans (But.of s45)), upd_same, nd_pt ndW2, fun p m => ?_, ?_, fun k => ?_⟩
        · rcases mem_pt m with z | ⟨z, _⟩
          · rw [z]
            exact ⟨he.ad hg, ad_up heu hgu⟩
          · exact kW2 p z
        · have := len_pt (T := W2) (e := S15.ad e g) (x := vl W2 (S15.ad e g) + y * y2)
          omega
        · rw [vl_pt ndW2, sw_tk hj]
          by_cases c : k = S15.ad e g
          · rw [if_pos c, vW2, c]
            simp only [if_pos rfl]
            rw [if_pos trivial]
            grind
          · rw [if_neg c, vW2]
            simp only
            rw [if_neg (fun z => c z.symm)]
            simp
    · obtain ⟨o4, o5, o6, W2, rfl, b2, hW2, ndW2, kW2, cW2, vW2⟩ := I
      refine ⟨_, _, _, _, W2, rfl, b.trans b2, hW2, ndW2, kW2, by rw [Nat.succ_mul]; omega, fun k => ?_⟩
      rw [vW2, List.take_length]
      unfold cv
      rw [sw_tk hi]
  obtain ⟨o3, o4, o5, o6, W, rfl, b, hW, ndW, kW, cW, vW⟩ := I
  rw [List.take_length] at vW
  refine z_fix hW (fun oo => ?_)
  have sE : Same H (upd Hi D (.frz oo (.dT (enT V.int W)))) := Same.put (same_but hD fun a o ne e => b a o ne (s1 _ _ e)) hD
  have hE : Frz (upd Hi D (.frz oo (.dT (enT V.int W)))) D V.int W := Frz.new
  generalize (upd Hi D (.frz oo (.dT (enT V.int W)))) = HE at *
  have htE := sE _ _ ht
  have huE := sE _ _ hu
  try dsimp only [List.set]
  walk_at "zz"
  rename_i r H3 hr s3 er
  refine k r H3 (Same.trans sE s3) ⟨o * o', D, W, er, ⟨hE.mono s3, ndW, fun p m => ⟨(kW p m).1, (kW p m).2, ?_⟩, by omega⟩, Int.mul_pos o0 o0', Int.mul_dvd_mul dv dv', Int.mul_pos N0 N0, hNN, fun e => ?_⟩
  · have h9 : vl W p.1 = p.2 := by
      rw [vl_lk ndW, lkT_mem ndW m]
      rfl
    rw [← h9, vW]
    exact (cv_bits (fun q m => (hk q m).2.2) (fun q m => (hkU q m).2.2) p.1).up (by omega)
  · rw [vW, hC]
    have a1 : ∀ k, vl (scl N T) k = vl (scl o L0) k := fun k => by
      rw [vl_scl, vl_scl, hL, Int.mul_comm, hv, Int.mul_comm]
    have a2 : ∀ k, vl (scl N U) k = vl (scl o' M0) k := fun k => by
      rw [vl_scl, vl_scl, hM, Int.mul_comm, hvU, Int.mul_comm]
    have := cv_ext (k := e) a1 a2
    rw [cv_scl, cv_scl] at this
    rw [Int.mul_comm, this, Int.mul_comm]
theorem c_law_product (L : Lw K mg) : Cal P w K mg base 1 "_law_product" (sp2 fs_lpr) [] := by
  obtain ⟨fd, F⟩ := L.d_law_product
  exact ⟨⟨_, fd, ["a", "b"], [], ok_law_product L F, L.g_law_product, F.kp, F.bindsN (fun _ _ _ _ _ _ us hl => match us, hl with | [_, _], _ => rfl), .nil⟩⟩
theorem ok_law_turned (L : Lw K mg) {fd : FuncData} (F : FunD K "_law_turned" "_law_turned" (defArgs s_law_turned) (defBody s_law_turned) (defScope s_law_turned) (df_law_turned.dvs K) (df_law_turned.kws K) (He.fAd K ("_law_turned", none)) fd) : FnOk P w K mg base (L2N.CX P w) 2 (He.fAd K ("_law_turned", none)) fd (["a", "way"] : List Str) (sp2 fs_ltu) := by
  refine FunD.ok F sc_law_turned len2 (fun cdv A outer s H vs Q E hr h => ?_)
  obtain ⟨a, b, rfl, h⟩ := h
  refine ⟨_, (pss_cons (ps_set (i := 2) sc_law_turned.nd rfl (by first | exact Or.inl rfl | exact Or.inr rfl) (pe_c (c_law_in_order (K := K) L) hr (by decide) (L2N.takes_of rfl rfl rfl rfl) (pa_cons (pv 0) pa_nil)))
    (pss_cons (ps_set (i := 3) sc_law_turned.nd rfl (by first | exact Or.inl rfl | exact Or.inr rfl) pe_dnewT)
    (pss_cons (ps_for (passes_of rfl) rfl (pi_range1 (by rfl) L.f_range (pa_cons (pe_callB (callK rLen1 (K := K) rfl o_len) (by rfl) L.f_len (by decide +kernel) (pa_cons (pv 2) pa_nil)) pa_nil)) (pg_name (i := 4) sc_law_turned.nd rfl (by first | exact Or.inl rfl | exact Or.inr rfl)) (pss_cons (ps_dput (hu1 hr) (pv 3) (pe_ix (ix_seqK (K := K) rfl) (pv 2) (pv 4) (fun _ _ => rfl)) (pe_dget (hu1 hr) (pe_ix (ix_seqK (K := K) rfl) (pv 0) pe_int (fun _ _ => rfl)) (pe_ix (ix_seqK (K := K) rfl) (pv 2) (pv 4) (fun _ _ => rfl)) (fun _ _ => rfl)) (by rfl))
    (pss_one (ps_if (PW.pt (pw_or (pt_cmpR op_eq (pv 1) pe_int (nomark _)) (pw_or1 (PW.pt (pw_and (pt_cmpR op_eq (pv 1) pe_int (nomark _)) (pw_and1 (pt_cmpR op_eq (pe_op o_mod (pe_callTy o_int1 (by rfl) L.f_int (by decide +kernel) (pa_cons (pv 4) pa_nil)) pe_int) pe_int (nomark _)))))))) (pss_one (ps_dput (hu1 hr) (pv 3) (pe_ix (ix_seqK (K := K) rfl) (pv 2) (pv 4) (fun _ _ => rfl)) (pe_un o_neg (pe_dget (hu1 hr) (pv 3) (pe_ix (ix_seqK (K := K) rfl) (pv 2) (pv 4) (fun _ _ => rfl)) (fun _ _ => rfl))) (by rfl))) pss_nil))))
    (pss_one (ps_fix (ps_ret (pe_tup (pa_cons (pe_ix (ix_seqK (K := K) rfl) (pv 0) pe_int (fun _ _ => rfl)) (pa_cons (pv 3) pa_nil))))))))), ?_⟩
  rw [show L2.start (["a", "way", "rows", "table", "k"] : List Str) [a, b] = [some a, some b, none, none, none] from rfl]
  obtain ⟨t, w, n, cc, F, N, B, S, rfl, rfl, hLa, hS, k⟩ := h
  obtain ⟨o, d, T, ht, ⟨hFz, nd, hk, lT⟩, o0, dv, N0, N1, hv⟩ := id hLa
  try dsimp only [List.set]
  walk_at "zz"
  refine u_ino hLa hS (fun D1 H0 ys l s0 h0 hky cn ll => ?_)
  have ht0 := s0 _ _ ht
  have nz := la_nz o0 N0 hv
  try dsimp only [List.set]
  walk_at "zz"
  refine z_dnew (f := V.int) fun D hD => ?_
  have s1 : Same H0 (upd H0 D (.dT (enT V.int []))) := Same.new hD
  have e1 : (upd H0 D (.dT (enT V.int []))) D = some (.dT (enT V.int [])) := upd_same
  generalize (upd H0 D (.dT (enT V.int []))) = H1 at *
  have ht1 := s1 _ _ ht0
  have h01 := s1 _ _ h0
  have nd1 := frz_ne (hFz.mono s0) hD
  have nt1 := tup_ne ht0 hD
  have nD1 : D1 ≠ D := fun z => by
    rw [z, hD] at h0
    cases h0
  try dsimp only [List.set]
  walk_at "zz"
  rw [hky.1]
  refine z_foR (by omega) (by omega) (fun i σ Hi => ∃ o4 W, σ = [some (V.ref t), some (V.int w), some (V.ref D1), some (V.ref D), o4] ∧ But D H1 Hi ∧ Hi D = some (.dT (enT V.int W)) ∧ W.map (·.1) = l.take i ∧ ∀ p, p ∈ W → p.2 = vl T p.1 ∨ p.2 = -vl T p.1) ⟨_, [], rfl, (fun _ _ _ e => e), e1, rfl, fun p m => nomatch m⟩ (fun i σ Hi hi I => ?_) (fun σ Hi I => ?_)
  · obtain ⟨o4, W, rfl, b, hW, kW, vW⟩ := I
    have sH : Same H0 Hi := same_but hD fun a o ne e => b a o ne (s1 _ _ e)
    have hkyi := hky.mono sH
    have li : i < l.length := by omega
    have hle : l[i]? = some l[i] := List.getElem?_eq_getElem li
    generalize l[i] = e at *
    obtain ⟨q, hy, hq⟩ := hkyi.at hle
    have hti := b _ _ nt1 ht1
    have hFi : Frz Hi d V.int T := ((hFz.mono s0).mono s1).elim fun o e => ⟨o, b _ _ nd1 e⟩
    have h0i := sH _ _ h0
    have hlk := lk_pos nd ((nz e).mpr ((cn.mem e).mp (List.mem_of_getElem? hle)))
    have no : lkT W e = none := by
      refine lkT_none.mpr fun p m z => ?_
      have m2 : e ∈ l.take i := by
        rw [← kW, ← z]
        exact List.mem_map_of_mem m
      have nd2 : (l.take i ++ [e]).Nodup := by
        rw [← take_succ' hle]
        exact cn.nd.sublist (List.take_sublist _ _)
      rw [List.nodup_append] at nd2
      exact nd2.2.2 e m2 e (by simp) rfl
    have lW : W.length ≤ 100000 := by
      have := congrArg List.length kW
      rw [List.length_map, List.length_take] at this
      omega
    try dsimp only [List.set]
    walk_at "zz"
    refine z_ixLst h0i (v := .ref q) (atI_nat hy) ?_
    try dsimp only [List.set]
    walk_at "zz"
    refine z_dgf hFi hq hlk ?_
    try dsimp only [List.set]
    walk_at "zz"
    refine z_ixLst h0i (v := .ref q) (atI_nat hy) ?_
    try dsimp only [List.set]
    walk_at "zz"
    refine z_dpm (x := vl T e) hW hq (by omega) ?_
    rw [pt_new no]
    have b9 : But D H1 (upd Hi D (.dT (enT V.int (W ++ [(e, vl T e)])))) := put_but b
    have hW9 : (upd Hi D (.dT (enT V.int (W ++ [(e, vl T e)])))) D = some (.dT (enT V.int (W ++ [(e, vl T e)]))) := upd_same
    have hq9 : (upd Hi D (.dT (enT V.int (W ++ [(e, vl T e)])))) q = some (.tup (e.map V.int)) := by
      rw [upd_ne (fun z => by rw [z, hW] at hq; cases hq)]
      exact hq
    have h09 := b9 _ _ nD1 h01
    generalize (upd Hi D (.dT (enT V.int (W ++ [(e, vl T e)])))) = H9 at *
    have lk9 : lkT (W ++ [(e, vl T e)]) e = some (vl T e) := by
      rw [lkT_app, no, if_pos rfl]
      rfl
    have stay : ∃ o4 W', [some (V.ref t), some (V.int w), some (V.ref D1), some (V.ref D), some (V.int (i : Int))] = [some (V.ref t), some (V.int w), some (V.ref D1), some (V.ref D), o4] ∧ But D H1 H9 ∧ H9 D = some (.dT (enT V.int W')) ∧ W'.map (·.1) = l.take (i + 1) ∧ ∀ p, p ∈ W' → p.2 = vl T p.1 ∨ p.2 = -vl T p.1 := by
      refine ⟨_, W ++ [(e, vl T e)], rfl, b9, hW9, ?_, fun p m => ?_⟩
      · rw [List.map_append, kW, take_succ' hle]
        rfl
      · rcases List.mem_append.mp m with m | m
        · exact vW p m
        · rw [List.mem_singleton.mp m]
          exact .inl rfl
    have turn : ∃ o4 W', [some (V.ref t), some (V.int w), some (V.ref D1), some (V.ref D), some (V.int (i : Int))] = [some (V.ref t), some (V.int w), some (V.ref D1), some (V.ref D), o4] ∧ But D H1 (upd H9 D (.dT (enT V.int (ptT (W ++ [(e, vl T e)]) e (-vl T e))))) ∧ (upd H9 D (.dT (enT V.int (ptT (W ++ [(e, vl T e)]) e (-vl T e))))) D = some (.dT (enT V.int W')) ∧ W'.map (·.1) = l.take (i + 1) ∧ ∀ p, p ∈ W' → p.2 = vl T p.1 ∨ p.2 = -vl T p.1 := by
      refine ⟨_, W ++ [(e, -vl T e)], rfl, put_but b9, ?_, ?_, fun p m => ?_⟩
      · rw [upd_same, pt_last no]
      · rw [List.map_append, kW, take_succ' hle]
        rfl
      · rcases List.mem_append.mp m with m | m
        · exact vW p m
        · rw [List.mem_singleton.mp m]
          exact .inr rfl
    try dsimp only [List.set]
    walk_at "zz"
    refine z_d2 (fun c => ?_) (fun c => ?_)
    · rw [if_pos rfl]
      try dsimp only [List.set]
      walk_at "zz"
      refine z_ixLst h09 (v := .ref q) (atI_nat hy) ?_
      try dsimp only [List.set]
      walk_at "zz"
      refine z_dgm hW9 hq9 lk9 ?_
      try dsimp only [List.set]
      walk_at "zz"
      refine z_ixLst h09 (v := .ref q) (atI_nat hy) ?_
      try dsimp only [List.set]
      walk_at "zz"
      refine z_dpm (x := -vl T e) hW9 hq9 (by rw [List.length_append]; show _ + 1 < _; omega) ?_
      exact turn
    · try dsimp only [List.set]
      walk_at "zz"
      refine z_d2 (fun c2 => ?_) (fun c2 => ?_)
      · try dsimp only [List.set]
        walk_at "zz"
        refine z_mod (by decide) ?_
        try dsimp only [List.set]
        walk_at "zz"
        refine z_d2 (fun c3 => ?_) (fun c3 => ?_)
        · try dsimp only [List.set]
          walk_at "zz"
          refine z_ixLst h09 (v := .ref q) (atI_nat hy) ?_
          try dsimp only [List.set]
          walk_at "zz"
          refine z_dgm hW9 hq9 lk9 ?_
          try dsimp only [List.set]
          walk_at "zz"
          refine z_ixLst h09 (v := .ref q) (atI_nat hy) ?_
          try dsimp only [List.set]
          walk_at "zz"
          refine z_dpm (x := -vl T e) hW9 hq9 (by rw [List.length_append]; show _ + 1 < _; omega) ?_
          exact turn
        · try dsimp only [List.set]
          walk_at "zz"
          exact stay
      · try dsimp only [List.set]
        walk_at "zz"
        exact stay
  obtain ⟨o4, W, rfl, b, hW, kW, vW⟩ := I
  refine z_fix hW (fun oo => ?_)
  have sE : Same H (upd Hi D (.frz oo (.dT (enT V.int W)))) := Same.trans s0 (Same.put (same_but hD fun a o ne e => b a o ne (s1 _ _ e)) hD)
  have hE : Frz (upd Hi D (.frz oo (.dT (enT V.int W)))) D V.int W := Frz.new
  generalize (upd Hi D (.frz oo (.dT (enT V.int W)))) = HE at *
  have htE := sE _ _ ht
  rw [show ((l.length : Int)).toNat = l.length by omega, List.take_length] at kW
  try dsimp only [List.set]
  walk_at "zz"
  rename_i r H3 hr s3 er
  refine k r H3 _ (Same.trans sE s3) (la_mk er ⟨hE.mono s3, ?_, fun p m => ?_, ?_⟩ o0 dv N0 N1)
  · unfold Nd
    rw [kW]
    exact cn.nd
  · have m2 : p.1 ∈ l := by
      rw [← kW]
      exact List.mem_map_of_mem m
    have hl := lk_pos nd ((nz p.1).mpr ((cn.mem p.1).mp m2))
    obtain ⟨h1, h2, h3⟩ := hk _ (lkT_some hl)
    refine ⟨h1, h2, ?_⟩
    rcases vW p m with z | z
    · rw [z]
      exact h3
    · rw [z]
      exact h3.neg
  · have := congrArg List.length kW
    rw [List.length_map] at this
    omega
theorem c_law_turned (L : Lw K mg) : Cal P w K mg base 2 "_law_turned" (sp2 fs_ltu) [] := by
  obtain ⟨fd, F⟩ := L.d_law_turned
  exact ⟨⟨_, fd, ["a", "way"], [], ok_law_turned L F, L.g_law_turned, F.kp, F.bindsN (fun _ _ _ _ _ _ us hl => match us, hl with | [_, _], _ => rfl), .nil⟩⟩
theorem ok_law_drawn (L : Lw K mg) {fd : FuncData} (F : FunD K "_law_drawn" "_law_drawn" (defArgs s_law_drawn) (defBody s_law_drawn) (defScope s_law_drawn) (df_law_drawn.dvs K) (df_law_drawn.kws K) (He.fAd K ("_law_drawn", none)) fd) : FnOk P w K mg base (L2N.CX P w) 2 (He.fAd K ("_law_drawn", none)) fd (["cells", "k", "count", "n", "wide"] : List Str) (sp5 fs_ldr) := by
  refine FunD.ok F sc_law_drawn len5 (fun cdv A outer s H vs Q E hr h => ?_)
  obtain ⟨a, b, c, e, f, rfl, h⟩ := h
  refine ⟨_, (pss_cons (ps_set (i := 5) sc_law_drawn.nd rfl (by first | exact Or.inl rfl | exact Or.inr rfl) pe_dnewT)
    (pss_cons (ps_for (passes_of rfl) rfl (pi_range1 (by rfl) L.f_range (pa_cons (pv 2) pa_nil)) (pg_name (i := 6) sc_law_drawn.nd rfl (by first | exact Or.inl rfl | exact Or.inr rfl)) (pss_cons (ps_set (i := 7) sc_law_drawn.nd rfl (by first | exact Or.inl rfl | exact Or.inr rfl) (pe_c (c_law_draw (K := K) L) hr (by decide) (L2N.takes_of rfl rfl rfl rfl) (pa_cons (pv 0) (pa_cons (pe_op o_cat (pe_op o_cat pe_int (pe_op o_rep pe_int (pv 1))) (pv 6)) (pa_cons pe_int pa_nil)))))
    (pss_cons (ps_set (i := 8) sc_law_drawn.nd rfl (by first | exact Or.inl rfl | exact Or.inr rfl) (pe_lst pa_nil))
    (pss_cons (ps_for (passes_of rfl) rfl (pi_range1 (by rfl) L.f_range (pa_cons (pv 3) pa_nil)) (pg_name (i := 9) sc_law_drawn.nd rfl (by first | exact Or.inl rfl | exact Or.inr rfl)) (pss_cons (ps_set (i := 10) sc_law_drawn.nd rfl (by first | exact Or.inl rfl | exact Or.inr rfl) (pe_op o_cat (pe_op o_cat (pe_op o_cat (pe_ix (ix_seqK (K := K) rfl) (pv 7) (pe_op o_cat pe_int (pv 9)) (fun _ _ => rfl)) (pe_op o_rep (pe_ix (ix_seqK (K := K) rfl) (pv 7) pe_int (fun _ _ => rfl)) (pe_op o_cat (pv 9) pe_int))) (pv 6)) (pv 1)))
    (pss_one (ps_if (pt_val (pv 4)) (pss_one (ps_expr (pe_bm PySem.F.plainAttrs_list PySem.F.slot_list_append PySem.F.type_list_append mt_append (pv 8) (pa_cons (pe_op o_mod (pe_callTy o_int1 (by rfl) L.f_int (by decide +kernel) (pa_cons (pe_op o_cat (pe_op o_cat (pe_op o_rep pe_int (pe_ix (ix_seqK (K := K) rfl) (pv 7) (pe_op o_cat pe_int (pv 9)) (fun _ _ => rfl))) (pv 10)) (pe_ix (ix_seqK (K := K) rfl) (pv 7) (pe_op o_cat pe_int (pv 9)) (fun _ _ => rfl))) pa_nil)) pe_int) pa_nil)))) (pss_one (ps_expr (pe_bm PySem.F.plainAttrs_list PySem.F.slot_list_append PySem.F.type_list_append mt_append (pv 8) (pa_cons (pe_op o_mod (pe_callTy o_int1 (by rfl) L.f_int (by decide +kernel) (pa_cons (pv 10) pa_nil)) pe_int) pa_nil))))))))
    (pss_one (ps_dput (hu1 hr) (pv 5) (pe_callTy (callK rTup1 (K := K) rfl call_tuple_of) (by rfl) L.f_tuple (by decide +kernel) (pa_cons (pv 8) pa_nil)) (pe_op o_cat (pe_op o_sub (pe_op o_cat (pe_dget2 (hu1 hr) (pv 5) (pe_callTy (callK rTup1 (K := K) rfl call_tuple_of) (by rfl) L.f_tuple (by decide +kernel) (pa_cons (pv 8) pa_nil)) pe_int ⟨by rfl, by rfl, by rfl, by rfl⟩) (pe_ix (ix_seqK (K := K) rfl) (pv 7) pe_int (fun _ _ => rfl))) pe_int) (pe_op o_rep pe_int (pv 6))) (by rfl)))))))
    (pss_one (ps_fix (ps_ret (pe_tup (pa_cons (pe_op o_cat pe_int (pe_op o_mod (pe_callTy o_int1 (by rfl) L.f_int (by decide +kernel) (pa_cons (pv 1) pa_nil)) pe_int)) (pa_cons (pv 5) pa_nil)))))))), ?_⟩
  rw [show L2.start (["cells", "k", "count", "n", "wide", "table", "j", "row", "ex", "i", "part"] : List Str) [a, b, c, e, f] = [some a, some b, some c, some e, some f, none, none, none, none, none, none] from rfl]
  obtain ⟨p, k, m, n, w, rfl, rfl, rfl, rfl, rfl, hp, k0, k1, hm, hn, q⟩ := h
  try dsimp only [List.set]
  walk_at "zz"
  refine z_dnew (f := V.int) fun D hD => ?_
  have s1 : Same H (upd H D (.dT (enT V.int []))) := Same.new hD
  have e1 : (upd H D (.dT (enT V.int []))) D = some (.dT (enT V.int [])) := upd_same
  generalize (upd H D (.dT (enT V.int []))) = H1 at *
  try dsimp only [List.set]
  walk_at "zz"
  refine z_foR (by omega) (by omega) (fun j σ Hi => ∃ o6 o7 o8 o9 o10 W, σ = [some (V.ref p), some (V.int k), some (V.int (m : Int)), some (V.int (n : Int)), some (V.bl w), some (V.ref D), o6, o7, o8, o9, o10] ∧ But D H1 Hi ∧ Hi D = some (.dT (enT V.int W)) ∧ Nd W ∧ (∀ p, p ∈ W → Sh n p.1 ∧ (∀ x, x ∈ p.1 → x ≤ 40) ∧ p.2.natAbs ≤ 40 * j) ∧ W.length ≤ j) ⟨_, _, _, _, _, [], rfl, (fun _ _ _ e => e), e1, nd_nil, (fun p m => nomatch m), Nat.le_refl _⟩ (fun j σ Hi hj I => ?_) (fun σ Hi I => ?_)
  · obtain ⟨o6, o7, o8, o9, o10, W, rfl, b, hW, ndW, kW, lW⟩ := I
    have sH : Same H Hi := same_but hD fun a o ne e => b a o ne (s1 _ _ e)
    have hpi := hp.mono sH
    have j4 : j < 4 := by omega
    try dsimp only [List.set]
    walk_at "zz"
    refine u_draw (m := 14) hpi (by omega) (by decide) (fun Dr H2 ds s2 h2 l2 hd => ?_)
    have dg : ∀ k : Nat, k < 14 → 0 ≤ ds.getD k 0 ∧ ds.getD k 0 ≤ 9 := fun k hk => by
      rw [List.getD_eq_getElem?_getD, List.getElem?_eq_getElem (by omega)]
      exact hd _ (List.getElem_mem _)
    have d1 := dg 1 (by decide)
    have d0 := dg 0 (by decide)
    try dsimp only [List.set]
    walk_at "zz"
    rename_i x0 H3 hx0 s3 e3
    try dsimp only [List.set]
    walk_at "zz"
    refine z_foR (by omega) (by omega) (fun i σ Hj => ∃ o9 o10 es, σ = [some (V.ref p), some (V.int k), some (V.int (m : Int)), some (V.int (n : Int)), some (V.bl w), some (V.ref D), some (V.int (j : Int)), some (V.ref Dr), some (V.ref x0), o9, o10] ∧ But x0 H3 Hj ∧ Hj x0 = some (.lst (es.map V.int)) ∧ es.length = i ∧ ∀ x, x ∈ es → 0 ≤ x ∧ x ≤ 40) ⟨_, _, [], rfl, (fun _ _ _ e => e), e3, rfl, fun p m => nomatch m⟩ (fun i σ Hj hi I => ?_) (fun σ Hj I => ?_)
    · obtain ⟨o9, o10, es, rfl, b2, hx, lx, hes⟩ := I
      have nDr : Dr ≠ x0 := fun z => by
        rw [z, hx0] at h2
        cases h2
      have h2j := b2 _ _ nDr (s3 _ _ h2)
      have i6 : i < 6 := by omega
      have d2 := dg (2 + (i : Int)).toNat (by omega)
      have d8 := dg (8 + (i : Int)).toNat (by omega)
      try dsimp only [List.set]
      walk_at "zz"
      refine z_ixC h2j (by omega) (by omega) ?_
      try dsimp only [List.set]
      walk_at "zz"
      refine z_ixC h2j (by omega) (by omega) ?_
      try dsimp only [List.set]
      walk_at "zz"
      refine z_ifb (fun c => ?_) (fun c => ?_)
      · try dsimp only [List.set]
        walk_at "zz"
        refine z_app rfl hx ?_
        try dsimp only [List.set]
        walk_at "zz"
        refine z_ixC h2j (by omega) (by omega) ?_
        try dsimp only [List.set]
        walk_at "zz"
        refine z_ixC h2j (by omega) (by omega) ?_
        try dsimp only [List.set]
        walk_at "zz"
        refine z_mod (by decide) ?_
        try dsimp only [List.set]
        walk_at "zz"
        refine z_ap hx (by rw [List.length_map]; omega) ?_
        try dsimp only [List.set]
        walk_at "zz"
        refine ⟨_, _, es ++ [_], rfl, put_but b2, by rw [upd_same, List.map_append]; rfl, by rw [List.length_append, lx]; rfl, fun x mx => ?_⟩
        rcases List.mem_append.mp mx with mx | mx
        · exact hes x mx
        · rw [List.mem_singleton.mp mx]
          omega
      · try dsimp only [List.set]
        walk_at "zz"
        refine z_app rfl hx ?_
        try dsimp only [List.set]
        walk_at "zz"
        refine z_mod (by decide) ?_
        try dsimp only [List.set]
        walk_at "zz"
        refine z_ap hx (by rw [List.length_map]; omega) ?_
        try dsimp only [List.set]
        walk_at "zz"
        refine ⟨_, _, es ++ [_], rfl, put_but b2, by rw [upd_same, List.map_append]; rfl, by rw [List.length_append, lx]; rfl, fun x mx => ?_⟩
        rcases List.mem_append.mp mx with mx | mx
        · exact hes x mx
        · rw [List.mem_singleton.mp mx]
          omega
    · obtain ⟨o9, o10, es, rfl, b2, hx, lx, hes⟩ := I
      have nDr : Dr ≠ x0 := fun z => by
        rw [z, hx0] at h2
        cases h2
      have h2j := b2 _ _ nDr (s3 _ _ h2)
      have bD : But D H1 Hj := fun a o ne e => b2 a o (fun z => by
        have := s2 _ _ (b a o ne e)
        rw [z, hx0] at this
        cases this) (s3 _ _ (s2 _ _ (b a o ne e)))
      have hWj : Hj D = some (.dT (enT V.int W)) := b2 _ _ (fun z => by
        have := s2 _ _ hW
        rw [z, hx0] at this
        cases this) (s3 _ _ (s2 _ _ hW))
      have hsh : Sh n es := ⟨by omega, fun x mx => (hes x mx).1⟩
      have bv : (vl W es).natAbs ≤ 40 * j := by
        rw [vl_lk ndW]
        cases h9 : lkT W es with
        | none => exact Nat.zero_le _
        | some v => exact (kW _ (lkT_some h9)).2.2
      try dsimp only [List.set]
      walk_at "zz"
      refine z_dg2 rfl (isd_m hWj) ?_
      try dsimp only [List.set]
      walk_at "zz"
      refine z_tup1L hx (fun pt H5 hpt s5 h5 => ?_)
      try dsimp only [List.set]
      walk_at "zz"
      refine z_dg3 (s5 _ _ hWj) h5 ?_
      rw [getd_int ndW]
      try dsimp only [List.set]
      walk_at "zz"
      refine z_ixC (s5 _ _ h2j) (by decide) (by omega) ?_
      try dsimp only [List.set]
      walk_at "zz"
      refine z_tup1L (s5 _ _ hx) (fun pt2 H6 hpt2 s6 h6 => ?_)
      try dsimp only [List.set]
      walk_at "zz"
      refine z_dpm (x := vl W es + ds.getD (0 : Int).toNat 0 - 4 + 3 * (j : Int)) (s6 _ _ (s5 _ _ hWj)) h6 (by omega) ?_
      refine ⟨_, _, _, _, _, ptT W es (vl W es + ds.getD (0 : Int).toNat 0 - 4 + 3 * (j : Int)), rfl, put_but (bD.trans (But.of (Same.trans s5 s6))), upd_same, nd_pt ndW, fun p mp => ?_, ?_⟩
      · rcases mem_pt mp with z | ⟨z, _⟩
        · rw [z]
          refine ⟨hsh, fun x mx => (hes x mx).2, ?_⟩
          show (vl W es + ds.getD 0 0 - 4 + 3 * (j : Int)).natAbs ≤ _
          omega
        · obtain ⟨a1, a2, a3⟩ := kW p z
          exact ⟨a1, a2, by omega⟩
      · have := len_pt (T := W) (e := es) (x := vl W es + ds.getD (0 : Int).toNat 0 - 4 + 3 * (j : Int))
        omega
  obtain ⟨o6, o7, o8, o9, o10, W, rfl, b, hW, ndW, kW, lW⟩ := I
  refine z_fix hW (fun oo => ?_)
  have sE : Same H (upd Hi D (.frz oo (.dT (enT V.int W)))) := Same.put (same_but hD fun a o ne e => b a o ne (s1 _ _ e)) hD
  have hE : Frz (upd Hi D (.frz oo (.dT (enT V.int W)))) D V.int W := Frz.new
  generalize (upd Hi D (.frz oo (.dT (enT V.int W)))) = HE at *
  try dsimp only [List.set]
  walk_at "zz"
  refine z_mod (by decide) ?_
  try dsimp only [List.set]
  walk_at "zz"
  rename_i r H3 hr s3 er
  have o3 : 1 + k % 3 = 1 ∨ 1 + k % 3 = 2 ∨ 1 + k % 3 = 3 := by omega
  refine q r H3 _ (Same.trans sE s3) (la_mk er ⟨hE.mono s3, ndW, fun p m => ⟨(kW p m).1, (kW p m).2.1, ?_⟩, by omega⟩ (by omega) ?_ (by decide) (by decide))
  · have := (kW p m).2.2
    unfold Bits
    have e8 : (2 : Nat) ^ 8 = 256 := by decide
    omega
  · rcases o3 with e | e | e <;> rw [e] <;> decide
theorem c_law_drawn (L : Lw K mg) : Cal P w K mg base 2 "_law_drawn" (sp5 fs_ldr) [] := by
  obtain ⟨fd, F⟩ := L.d_law_drawn
  exact ⟨⟨_, fd, ["cells", "k", "count", "n", "wide"], [], ok_law_drawn L F, L.g_law_drawn, F.kp, F.bindsN (fun _ _ _ _ _ _ us hl => match us, hl with | [_, _, _, _, _], _ => rfl), .nil⟩⟩
end
end T
set_option maxHeartbeats 4000000
namespace T
open PySem PySem.Spec PyProof.Rows L2 Z
open S15
theorem La.monoN {H H' : Hp} {t : Addr} {n : Nat} {c : Int} {F : Ex → Int} {N : Int} {B S : Nat} (s : SameN H H') (h : La H t n c F N B S) : La H' t n c F N B S := by
  obtain ⟨o, d, T, h1, ⟨⟨oo, h2⟩, h3⟩, h⟩ := h
  exact ⟨o, d, T, s _ _ h1 (fun _ z => nomatch z), ⟨⟨oo, s _ _ h2 (fun _ z => nomatch z)⟩, h3⟩, h⟩
/-- a list of own forms, each over 6 -/
def LaL (H : Hp) (xs : List V) (n : Nat) (Fs : Nat → Ex → Int) : Prop := ∀ (k : Nat) x, xs[k]? = some x → ∃ t, x = .ref t ∧ La H t n 40 (Fs k) 6 (8 + 21 * (k + 1)) (4 * (k + 1))
theorem LaL.monoN {H H' : Hp} {xs : List V} {n : Nat} {Fs : Nat → Ex → Int} (s : SameN H H') (h : LaL H xs n Fs) : LaL H' xs n Fs := fun k x e => by
  obtain ⟨t, e1, e2⟩ := h k x e
  exact ⟨t, e1, e2.monoN s⟩
theorem LaL.mono {H H' : Hp} {xs : List V} {n : Nat} {Fs : Nat → Ex → Int} (s : Same H H') (h : LaL H xs n Fs) : LaL H' xs n Fs := h.monoN (SameN.of s)
theorem LaL.snoc {H : Hp} {xs : List V} {n i : Nat} {Fs : Nat → Ex → Int} {t : Addr} {G : Ex → Int} (h : LaL H xs n Fs) (hl : xs.length = i) (ht : La H t n 40 G 6 (8 + 21 * (i + 1)) (4 * (i + 1))) : LaL H (xs ++ [.ref t]) n (fun k => if k = i then G else Fs k) := fun k x e => by
  by_cases c : k < xs.length
  · rw [List.getElem?_append_left c] at e
    have : ¬ k = i := by omega
    simp only [if_neg this]
    exact h k x e
  · rw [List.getElem?_append_right (by omega)] at e
    by_cases d : k - xs.length = 0
    · have ki : k = i := by omega
      rw [d] at e
      cases Option.some.inj e
      simp only [if_pos ki]
      rw [ki]
      exact ⟨t, rfl, ht⟩
    · rw [List.getElem?_eq_none (by simp; omega)] at e
      cases e
def fs_lfo : F4 := fun a b c e H Q _ => ∃ (p : Addr) (m n : Nat) (w : Bool), a = .ref p ∧ b = .int (m : Int) ∧ c = .int (n : Int) ∧ e = .bl w ∧ IsPool H p ∧ m ≤ 4 ∧ n ≤ 6 ∧ ∀ D H' xs Fs, Same H H' → H' D = some (.lst xs) → xs.length = m → LaL H' xs n Fs → Q (.ref D) H'
theorem u_lfo {H : Hp} {Q : VK} {E : XK} {p : Addr} {m n : Nat} {w : Bool} (h : IsPool H p) (hm : m ≤ 4) (hn : n ≤ 6) (q : ∀ D H' xs Fs, Same H H' → H' D = some (.lst xs) → xs.length = m → LaL H' xs n Fs → Q (.ref D) H') : sp4 fs_lfo [.ref p, .int (m : Int), .int (n : Int), .bl w] H Q E := ⟨_, _, _, _, rfl, p, m, n, w, rfl, rfl, rfl, rfl, h, hm, hn, q⟩
theorem digit {ds : List Int} {m : Nat} (l : ds.length = m) (hd : Dgs ds) (k : Nat) (hk : k < m) : 0 ≤ ds.getD k 0 ∧ ds.getD k 0 ≤ 9 := by
  rw [List.getD_eq_getElem?_getD, List.getElem?_eq_getElem (by omega)]
  exact hd _ (List.getElem_mem _)
theorem at_prev {xs : List V} {i : Nat} {x : V} (h0 : 0 < i) (h : xs[i - 1]? = some x) : atI xs ((i : Int) - 1) = some x := by
  have : ((i : Int) - 1) = ((i - 1 : Nat) : Int) := by omega
  rw [this]
  exact atI_nat h
local macro_rules | `(tactic| walk_at "z") => `(tactic| with_reducible refine z_fldS ?_)
local macro_rules | `(tactic| walk_at "z") => `(tactic| ((with_reducible refine' z_fdt ?zc1 ?zc2 ?zl2 ?_); (case zc1 => exact Lw.cl_Ratio (by assumption)); (case zc2 => exact Lw.na_Ratio_top (by assumption)); (case zl2 => walk_at "up")))
local macro_rules | `(tactic| walk_at "z") => `(tactic| ((with_reducible refine' z_fdb ?zc1 ?zc2 ?zl2 ?_); (case zc1 => exact Lw.cl_Ratio (by assumption)); (case zc2 => exact Lw.na_Ratio_bottom (by assumption)); (case zl2 => walk_at "up")))
local macro_rules | `(tactic| walk_at "z") => `(tactic| ((with_reducible refine' z_isTup ?zl1 ?_); (case zl1 => walk_at "up")))
local macro_rules | `(tactic| walk_at "z") => `(tactic| ((with_reducible refine' z_isR ?zl1 ?zl2 ?zl3 ?_); (case zl1 => exact Lw.in_Ratio (by assumption)); (case zl2 => exact Lw.kt_Ratio_Ratio (by assumption)); (case zl3 => walk_at "up")))
local macro_rules | `(tactic| walk_at "z") => `(tactic| ((with_reducible refine' z_isFm ?zl1 ?zl2 ?zl3 ?_); (case zl1 => exact Lw.in_Form (by assumption)); (case zl2 => exact Lw.kt_Form_Form (by assumption)); (case zl3 => walk_at "up")))
local macro_rules | `(tactic| walk_at "z") => `(tactic| with_reducible refine u_who ?_)
local macro_rules | `(tactic| walk_at "z") => `(tactic| with_reducible refine u_gcd ?_)
local macro_rules | `(tactic| walk_at "up") => `(tactic| first
  | assumption
  | (refine' IsR.mono (by assumption) ?zup; case zup => walk_at "up")
  | (refine' IsE.mono (by assumption) ?zup; case zup => walk_at "up")
  | (refine' Same.at (by assumption) ?zup; case zup => walk_at "up")
  | (refine' SqL.of ?zup; case zup => walk_at "up")
  | (refine' L2.Same.seq (by assumption) ?zup; case zup => walk_at "up"))
local macro_rules | `(tactic| walk_at "z") => `(tactic| first
  | ((with_reducible refine' z_var ?zvh ?_); (case zvh => exact rfl))
  | with_reducible refine z_c ?_
  | with_reducible refine z_cons ?_
  | with_reducible refine z_nil ?_
  | with_reducible refine z_op ?_
  | with_reducible refine z_nx ?_
  | with_reducible refine z_seq ?_
  | with_reducible refine z_asg ?_
  | with_reducible refine z_asgG ?_
  | with_reducible refine z_call ?_
  | with_reducible refine z_sq0 ?_
  | with_reducible refine z_sq1 ?_
  | with_reducible refine z_ifS ?_
  | with_reducible refine z_test ?_
  | with_reducible refine z_tb ?_
  | with_reducible refine z_bl ?_
  | with_reducible refine z_blI ?_
  | with_reducible refine z_ret ?_
  | with_reducible refine z_rt ?_
  | with_reducible refine z_T ?_
  | with_reducible refine z_F ?_
  | with_reducible refine z_add ?_
  | with_reducible refine z_sub ?_
  | with_reducible refine z_neg ?_
  | with_reducible refine z_un ?_
  | with_reducible refine z_eqI ?_
  | with_reducible refine z_neI ?_
  | with_reducible refine z_lt ?_
  | with_reducible refine z_le ?_
  | with_reducible refine z_gt ?_
  | with_reducible refine z_ge ?_
  | with_reducible refine z_not ?_
  | with_reducible refine z_and ?_
  | with_reducible refine z_or ?_
  | with_reducible refine z_andV ?_
  | with_reducible refine z_orV ?_
  | with_reducible refine z_notV ?_
  | with_reducible refine z_if ?_
  | with_reducible refine z_cb ?_
  | with_reducible refine z_int1 ?_
  | with_reducible refine z_intb ?_
  | with_reducible refine z_abs ?_
  | with_reducible refine z_gcd ?_
  | with_reducible refine z_isi_ii ?_
  | with_reducible refine z_isi_ib ?_
  | with_reducible refine z_next ?_
  | with_reducible refine z_drop ?_
  | with_reducible refine z_par ?_
  | with_reducible refine z_par2 ?_
  | with_reducible refine z_tupN ?_
  | with_reducible refine z_lstN ?_
  | ((with_reducible refine' z_nt ?zl1 ?_); (case zl1 => exact Nat.le_of_ble_eq_true rfl); intro p H' hp hs he)
  | ((with_reducible refine' z_gtup ?zl1 ?zl2 ?_); (case zl1 => walk_at "up"); (case zl2 => exact rfl))
  | with_reducible refine z_bk ?_
  | with_reducible refine z_ct ?_
  | with_reducible refine z_break ?_
  | with_reducible refine z_cont ?_
  | with_reducible refine z_retN ?_
  | with_reducible refine z_nn ?_
  | with_reducible refine z_mk ?_
  | with_reducible refine z_gn ?_
  | with_reducible refine z_gcons ?_
  | with_reducible refine z_gnil ?_
  | with_reducible refine z_mt ?_
  | with_reducible refine z_mko ?_
  | with_reducible refine z_for2 ?_
  | with_reducible refine z_ownI ?_
  | ((with_reducible refine' z_lenL ?zl1 ?_); (case zl1 => walk_at "up"))
  | ((with_reducible refine' z_ixT ?zl1 ?zl2 ?_); (case zl1 => walk_at "up"); (case zl2 => exact rfl))
  | ((with_reducible refine' z_mulL ?zl1 ?zl2 ?_); (case zl1 => omega); (case zl2 => omega))
  | ((with_reducible refine' z_mulR ?zl1 ?zl2 ?_); (case zl1 => omega); (case zl2 => omega))
  | ((with_reducible refine' z_divS ?zl1 ?zl2 ?_); (case zl1 => omega); (case zl2 => omega))
  | ((with_reducible refine' z_mulW ?zl1 ?zl2 ?zl3 ?zl4 ?_); (case zl1 => omega); (case zl2 => omega); (case zl3 => omega); (case zl4 => omega))
  | ((with_reducible refine' z_divW ?zl1 ?zl2 ?_); (case zl1 => omega); (case zl2 => omega)))
local macro_rules | `(tactic| walk_at "zz") => `(tactic| repeat (walk_at "z"))
local macro_rules | `(tactic| walk_at "z") => `(tactic| with_reducible refine z_lstN ?_)
local macro_rules | `(tactic| walk_at "z") => `(tactic| with_reducible refine z_p6 ?_)
local macro_rules | `(tactic| walk_at "z") => `(tactic| with_reducible refine z_p12 ?_)
local macro_rules | `(tactic| walk_at "z") => `(tactic| with_reducible refine z_p13 ?_)
local macro_rules | `(tactic| walk_at "z") => `(tactic| with_reducible refine z_calln ?_)
local macro_rules | `(tactic| walk_at "z") => `(tactic| with_reducible refine z_xfS ?_)
local macro_rules | `(tactic| walk_at "z") => `(tactic| with_reducible refine z_lcS ?_)
local macro_rules | `(tactic| walk_at "z") => `(tactic| with_reducible refine z_lcRS ?_)
local macro_rules | `(tactic| walk_at "z") => `(tactic| with_reducible refine z_lcZS ?_)
local macro_rules | `(tactic| walk_at "z") => `(tactic| with_reducible refine z_foS ?_)
local macro_rules | `(tactic| walk_at "z") => `(tactic| with_reducible refine z_for1 ?_)
local macro_rules | `(tactic| walk_at "z") => `(tactic| with_reducible refine z_tsl ?_)
local macro_rules | `(tactic| walk_at "z") => `(tactic| with_reducible refine z_np ?_)
local macro_rules | `(tactic| walk_at "z") => `(tactic| with_reducible refine z_pt ?_)
local macro_rules | `(tactic| walk_at "z") => `(tactic| with_reducible refine z_pti ?_)
local macro_rules | `(tactic| walk_at "z") => `(tactic| with_reducible refine z_catI ?_)
local macro_rules | `(tactic| walk_at "z") => `(tactic| with_reducible refine z_isNI ?_)
local macro_rules | `(tactic| walk_at "z") => `(tactic| with_reducible refine z_isNN ?_)
local macro_rules | `(tactic| walk_at "z") => `(tactic| with_reducible refine z_notNI ?_)
local macro_rules | `(tactic| walk_at "z") => `(tactic| with_reducible refine z_notNN ?_)
local macro_rules | `(tactic| walk_at "z") => `(tactic| with_reducible refine z_gsub ?_)
local macro_rules | `(tactic| walk_at "z") => `(tactic| with_reducible refine z_isNb ?_)
local macro_rules | `(tactic| walk_at "z") => `(tactic| with_reducible refine z_notNb ?_)
local macro_rules | `(tactic| walk_at "z") => `(tactic| ((with_reducible refine' z_nlR ?zl1 ?_); (case zl1 => exact Nat.le_of_ble_eq_true rfl); intro p H' hp hs he))
local macro_rules | `(tactic| walk_at "z") => `(tactic| ((with_reducible refine' z_repR ?zl1 ?zl2 ?_); (case zl1 => omega); (case zl2 => omega)))
local macro_rules | `(tactic| walk_at "z") => `(tactic| ((with_reducible refine' z_repL ?zl1 ?zl2 ?_); (case zl1 => omega); (case zl2 => omega)))
local macro_rules | `(tactic| walk_at "z") => `(tactic| ((with_reducible refine' z_lenLst ?zl1 ?_); (case zl1 => walk_at "up")))
local macro_rules | `(tactic| walk_at "z") => `(tactic| ((with_reducible refine' z_cat ?zl1 ?zl2 ?zl3 ?_); (case zl1 => walk_at "up"); (case zl2 => walk_at "up"); (case zl3 => (simp only [List.length_map, List.length_cons, List.length_nil, List.length_append, List.length_replicate]; omega)); intro p H' hp hs he))
local macro_rules | `(tactic| walk_at "z") => `(tactic| with_reducible refine z_sfl ?_)
local macro_rules | `(tactic| walk_at "z") => `(tactic| with_reducible refine z_lcES ?_)
local macro_rules | `(tactic| walk_at "z") => `(tactic| with_reducible refine z_lcMS ?_)
local macro_rules | `(tactic| walk_at "z") => `(tactic| with_reducible refine z_foES ?_)
local macro_rules | `(tactic| walk_at "z") => `(tactic| with_reducible refine z_fo3S ?_)
local macro_rules | `(tactic| walk_at "z") => `(tactic| with_reducible refine z_sta ?_)
local macro_rules | `(tactic| walk_at "z") => `(tactic| with_reducible refine z_sta1 ?_)
local macro_rules | `(tactic| walk_at "z") => `(tactic| with_reducible refine z_lcTS ?_)
local macro_rules | `(tactic| walk_at "z") => `(tactic| with_reducible refine z_foTS ?_)
local macro_rules | `(tactic| walk_at "z") => `(tactic| with_reducible refine z_revTS ?_)
local macro_rules | `(tactic| walk_at "z") => `(tactic| with_reducible refine z_max2 ?_)
local macro_rules | `(tactic| walk_at "z") => `(tactic| ((with_reducible refine' z_fldt ?zc1 ?zc2 ?zl1 ?zl2 ?_); (case zc1 => exact Lw.cl_Ratio (by assumption)); (case zc2 => exact Lw.na_Ratio_top (by assumption)); (case zl1 => exact rfl); (case zl2 => walk_at "up")))
local macro_rules | `(tactic| walk_at "z") => `(tactic| ((with_reducible refine' z_fldb ?zc1 ?zc2 ?zl1 ?zl2 ?_); (case zc1 => exact Lw.cl_Ratio (by assumption)); (case zc2 => exact Lw.na_Ratio_bottom (by assumption)); (case zl1 => exact rfl); (case zl2 => walk_at "up")))
local macro_rules | `(tactic| walk_at "z") => `(tactic| ((with_reducible refine' u_mtF ?zl1 ?_); (case zl1 => walk_at "up")))
local macro_rules | `(tactic| walk_at "z") => `(tactic| ((with_reducible refine' z_ixLst ?zl1 ?zl2 ?_); (case zl1 => walk_at "up"); (case zl2 => exact rfl)))
local macro_rules | `(tactic| walk_at "z") => `(tactic| with_reducible refine z_yes ?_)
local macro_rules | `(tactic| walk_at "z") => `(tactic| with_reducible refine z_if1 ?_)
local macro_rules | `(tactic| walk_at "z") => `(tactic| with_reducible refine z_dg ?_)
local macro_rules | `(tactic| walk_at "z") => `(tactic| with_reducible refine z_di ?_)
local macro_rules | `(tactic| walk_at "z") => `(tactic| with_reducible refine z_dp ?_)
local macro_rules | `(tactic| walk_at "z") => `(tactic| with_reducible refine z_foKS ?_)
local macro_rules | `(tactic| walk_at "z") => `(tactic| with_reducible refine z_foPS ?_)
local macro_rules | `(tactic| walk_at "z") => `(tactic| with_reducible refine z_foTS ?_)
local macro_rules | `(tactic| walk_at "z") => `(tactic| with_reducible refine z_lcKS ?_)
local macro_rules | `(tactic| walk_at "z") => `(tactic| with_reducible refine z_lcTS ?_)
local macro_rules | `(tactic| walk_at "z") => `(tactic| with_reducible refine z_dcTS ?_)
local macro_rules | `(tactic| walk_at "z") => `(tactic| with_reducible refine z_dcPS ?_)
local macro_rules | `(tactic| walk_at "z") => `(tactic| with_reducible refine z_fixV ?_)
local macro_rules | `(tactic| walk_at "z") => `(tactic| with_reducible refine z_mkk ?_)
local macro_rules | `(tactic| walk_at "z") => `(tactic| with_reducible refine z_sta ?_)
local macro_rules | `(tactic| walk_at "z") => `(tactic| with_reducible refine z_sta1 ?_)
local macro_rules | `(tactic| walk_at "z") => `(tactic| with_reducible refine z_ckw ?_)
local macro_rules | `(tactic| walk_at "z") => `(tactic| with_reducible refine z_cmpD ?_)
local macro_rules | `(tactic| walk_at "z") => `(tactic| with_reducible refine z_pk1 ?_)
local macro_rules | `(tactic| walk_at "z") => `(tactic| with_reducible refine z_tBD ?_)
local macro_rules | `(tactic| walk_at "z") => `(tactic| ((with_reducible refine' z_fl ?zc1 ?zc2 ?zl1 ?zl2 ?_); (case zc1 => exact Lw.cl_Form (by assumption)); (case zc2 => exact Lw.na_Form_letters (by assumption)); (case zl1 => exact rfl); (case zl2 => walk_at "up")))
local macro_rules | `(tactic| walk_at "z") => `(tactic| ((with_reducible refine' z_ft ?zc1 ?zc2 ?zl1 ?zl2 ?_); (case zc1 => exact Lw.cl_Form (by assumption)); (case zc2 => exact Lw.na_Form_terms (by assumption)); (case zl1 => exact rfl); (case zl2 => walk_at "up")))
local macro_rules | `(tactic| walk_at "z") => `(tactic| ((with_reducible refine' z_fd ?zc1 ?zc2 ?zl1 ?zl2 ?_); (case zc1 => exact Lw.cl_Form (by assumption)); (case zc2 => exact Lw.na_Form_degree (by assumption)); (case zl1 => exact rfl); (case zl2 => walk_at "up")))
theorem sameFI {H H1 H2 : Hp} (h : Same H1 H2) (e : Same H H1) : Same H H2 := e.trans h
local macro_rules | `(tactic| walk_at "sm") => `(tactic| first
  | assumption
  | exact fun _ _ h => h
  | (refine' sameFI (by assumption) ?zsm; case zsm => walk_at "sm"))
local macro_rules | `(tactic| walk_at "up") => `(tactic| first
  | assumption
  | (with_reducible refine' IsR.mono (by assumption) ?zup; case zup => walk_at "up")
  | (with_reducible refine' Fr.mono (by assumption) ?zup; case zup => walk_at "up")
  | (with_reducible refine' IsFm.mono (by assumption) ?zup; case zup => walk_at "up")
  | (with_reducible refine' Frz.mono (by assumption) ?zup; case zup => walk_at "up")
  | (with_reducible refine' Fo.mono (by assumption) ?zup; case zup => walk_at "up")
  | (with_reducible refine' La.mono (by assumption) ?zup; case zup => walk_at "up")
  | (with_reducible refine' Ta.mono (by assumption) ?zup; case zup => walk_at "up")
  | (with_reducible refine' PrL.mono (by assumption) ?zup; case zup => walk_at "up")
  | (with_reducible refine' EnA.mono (by assumption) ?zup; case zup => walk_at "up")
  | (with_reducible refine' Srt.mono (by assumption) ?zup; case zup => walk_at "up")
  | (with_reducible refine' Same.at (by assumption) ?zup; case zup => walk_at "up")
  | fail)
section
variable {P : Program} {w : World} {K : Frag} {mg : Str → Option Value} {base : Heap}
theorem ok_law_forms (L : Lw K mg) {fd : FuncData} (F : FunD K "_law_forms" "_law_forms" (defArgs s_law_forms) (defBody s_law_forms) (defScope s_law_forms) (df_law_forms.dvs K) (df_law_forms.kws K) (He.fAd K ("_law_forms", none)) fd) : FnOk P w K mg base (L2N.CX P w) 3 (He.fAd K ("_law_forms", none)) fd (["cells", "count", "n", "wide"] : List Str) (sp4 fs_lfo) := by
  refine FunD.ok F sc_law_forms len4 (fun cdv A outer s H vs Q E hr h => ?_)
  obtain ⟨a, b, c, e, rfl, h⟩ := h
  refine ⟨_, (pss_cons (ps_set (i := 4) sc_law_forms.nd rfl (by first | exact Or.inl rfl | exact Or.inr rfl) (pe_c (c_law_draw (K := K) L) hr (by decide) (L2N.takes_of rfl rfl rfl rfl) (pa_cons (pv 0) (pa_cons pe_int (pa_cons pe_int pa_nil)))))
    (pss_cons (ps_set (i := 5) sc_law_forms.nd rfl (by first | exact Or.inl rfl | exact Or.inr rfl) (pe_c (c_law_draw (K := K) L) hr (by decide) (L2N.takes_of rfl rfl rfl rfl) (pa_cons (pv 0) (pa_cons pe_int (pa_cons pe_int pa_nil)))))
    (pss_cons (ps_set (i := 6) sc_law_forms.nd rfl (by first | exact Or.inl rfl | exact Or.inr rfl) (pe_lst pa_nil))
    (pss_cons (ps_for (passes_of rfl) rfl (pi_range1 (by rfl) L.f_range (pa_cons (pv 1) pa_nil)) (pg_name (i := 7) sc_law_forms.nd rfl (by first | exact Or.inl rfl | exact Or.inr rfl)) (pss_cons (ps_set (i := 8) sc_law_forms.nd rfl (by first | exact Or.inl rfl | exact Or.inr rfl) (pe_c (c_law_drawn (K := K) L) hr (by decide) (L2N.takes_of rfl rfl rfl rfl) (pa_cons (pv 0) (pa_cons (pv 7) (pa_cons (pe_op o_mod (pe_callTy o_int1 (by rfl) L.f_int (by decide +kernel) (pa_cons (pe_op o_cat (pe_ix (ix_seqK (K := K) rfl) (pv 4) (pv 7) (fun _ _ => rfl)) pe_int) pa_nil)) pe_int) (pa_cons (pv 2) (pa_cons (pv 3) pa_nil)))))))
    (pss_cons (ps_set (i := 9) sc_law_forms.nd rfl (by first | exact Or.inl rfl | exact Or.inr rfl) (pe_op o_mod (pe_callTy o_int1 (by rfl) L.f_int (by decide +kernel) (pa_cons (pe_op o_cat (pe_ix (ix_seqK (K := K) rfl) (pv 5) (pv 7) (fun _ _ => rfl)) (pv 7)) pa_nil)) pe_int))
    (pss_cons (ps_if (PW.pt (pw_and (pt_cmpR o_gt (pv 7) pe_int (nomark _)) (pw_and1 (pt_cmpR op_eq (pv 9) pe_int (nomark _))))) (pss_one (ps_set (i := 8) sc_law_forms.nd rfl (by first | exact Or.inl rfl | exact Or.inr rfl) (pe_c (c_law_sum (K := K) L) hr (by decide) (L2N.takes_of rfl rfl rfl rfl) (pa_cons (pe_c (c_law_turned (K := K) L) hr (by decide) (L2N.takes_of rfl rfl rfl rfl) (pa_cons (pe_ix (ix_seqK (K := K) rfl) (pv 6) (pe_op o_sub (pv 7) pe_int) (fun _ _ => rfl)) (pa_cons pe_int pa_nil))) (pa_cons (pv 8) pa_nil))))) pss_nil)
    (pss_cons (ps_if (PW.pt (pw_and (pt_cmpR o_gt (pv 7) pe_int (nomark _)) (pw_and1 (pt_cmpR o_gt (pv 9) pe_int (nomark _))))) (pss_one (ps_set (i := 8) sc_law_forms.nd rfl (by first | exact Or.inl rfl | exact Or.inr rfl) (pe_c (c_law_turned (K := K) L) hr (by decide) (L2N.takes_of rfl rfl rfl rfl) (pa_cons (pe_ix (ix_seqK (K := K) rfl) (pv 6) (pe_op o_sub (pv 7) pe_int) (fun _ _ => rfl)) (pa_cons (pv 9) pa_nil))))) pss_nil)
    (pss_one (ps_expr (pe_bm PySem.F.plainAttrs_list PySem.F.slot_list_append PySem.F.type_list_append mt_append (pv 6) (pa_cons (pv 8) pa_nil)))))))))
    (pss_one (ps_ret (pv 6))))))), ?_⟩
  rw [show L2.start (["cells", "count", "n", "wide", "sizes", "ways", "own", "k", "a", "way"] : List Str) [a, b, c, e] = [some a, some b, some c, some e, none, none, none, none, none, none] from rfl]
  obtain ⟨p, m, n, w, rfl, rfl, rfl, rfl, hp, hm, hn, q⟩ := h
  try dsimp only [List.set]
  walk_at "zz"
  refine u_draw (m := 4) hp (by decide) (by decide) (fun D1 H1 ds1 s1 h1 l1 g1 => ?_)
  try dsimp only [List.set]
  walk_at "zz"
  refine u_draw (m := 4) (hp.mono s1) (by decide) (by decide) (fun D2 H2 ds2 s2 h2 l2 g2 => ?_)
  try dsimp only [List.set]
  walk_at "zz"
  rename_i D0 H3 hD0 s3 e3
  have h13 := s3 _ _ (s2 _ _ h1)
  have h23 := s3 _ _ h2
  have n1 : D1 ≠ D0 := fun z => by
    have := s2 _ _ h1
    rw [z, hD0] at this
    cases this
  have n2 : D2 ≠ D0 := fun z => by
    rw [z, hD0] at h2
    cases h2
  have hp3 := hp.mono (Same.trans (Same.trans s1 s2) s3)
  have sH2 := Same.trans s1 s2
  try dsimp only [List.set]
  walk_at "zz"
  refine z_foR (by omega) (by omega) (fun i σ Hi => ∃ o7 o8 o9 xs Fs, σ = [some (V.ref p), some (V.int (m : Int)), some (V.int (n : Int)), some (V.bl w), some (V.ref D1), some (V.ref D2), some (V.ref D0), o7, o8, o9] ∧ But D0 H3 Hi ∧ Hi D0 = some (.lst xs) ∧ xs.length = i ∧ LaL Hi xs n Fs) ⟨_, _, _, [], fun _ _ => 0, rfl, (fun _ _ _ e => e), e3, rfl, fun k x e => by simp at e⟩ (fun i σ Hi hi I => ?_) (fun σ Hi I => ?_)
  · obtain ⟨o7, o8, o9, xs, Fs, rfl, b, hx, lx, hLL⟩ := I
    have i4 : i < 4 := by omega
    have h1i := b _ _ n1 h13
    have h2i := b _ _ n2 h23
    have sHi : Same H2 Hi := same_but hD0 fun a o ne e => b a o ne (s3 _ _ e)
    have hpi := hp.mono (Same.trans sH2 sHi)
    have dg1 := digit l1 g1 i i4
    have dg2 := digit l2 g2 i i4
    try dsimp only [List.set]
    walk_at "zz"
    refine z_ixC h1i (by omega) (by omega) ?_
    try dsimp only [List.set]
    walk_at "zz"
    refine z_mod (by decide) ?_
    try dsimp only [List.set]
    walk_at "zz"
    obtain ⟨c, hc, hc4⟩ : ∃ c : Nat, (ds1.getD (i : Int).toNat 0 + 2) % 5 = (c : Int) ∧ c ≤ 4 := ⟨((ds1.getD (i : Int).toNat 0 + 2) % 5).toNat, by omega, by omega⟩
    rw [hc]
    refine u_ldr hpi (by omega) (by omega) hc4 hn (fun r0 H4 F0 s4 la0 => ?_)
    try dsimp only [List.set]
    walk_at "zz"
    refine z_ixC (s4 _ _ h2i) (by omega) (by omega) ?_
    try dsimp only [List.set]
    walk_at "zz"
    refine z_mod (by decide) ?_
    generalize (ds2.getD (i : Int).toNat 0 + (i : Int)) % 4 = wv
    try dsimp only [List.set]
    walk_at "zz"
    refine z_d2 (fun c0 => ?_) (fun c0 => ?_)
    · obtain ⟨t0, ht0, hlp⟩ : ∃ t0, xs[i - 1]? = some (V.ref t0) ∧ La Hi t0 n 40 (Fs (i - 1)) 6 (8 + 21 * (i - 1 + 1)) (4 * (i - 1 + 1)) := by
        have li : i - 1 < xs.length := by omega
        obtain ⟨t0, e0, l0⟩ := hLL (i - 1) _ (List.getElem?_eq_getElem li)
        exact ⟨t0, by rw [List.getElem?_eq_getElem li, e0], l0⟩
      have ei : i - 1 + 1 = i := by omega
      rw [ei] at hlp
      have hx4 := s4 _ _ hx
      try dsimp only [List.set]
      walk_at "zz"
      refine z_d2 (fun cw => ?_) (fun cw => ?_)
      · try dsimp only [List.set]
        walk_at "zz"
        refine z_ixLst hx4 (v := .ref t0) (at_prev (by omega) ht0) ?_
        try dsimp only [List.set]
        walk_at "zz"
        refine u_ltu (hlp.mono s4) (by omega) (fun r1 H5 F1 s5 la1 => ?_)
        try dsimp only [List.set]
        walk_at "zz"
        refine u_lsu la1 ((la0.mono s5).up (B' := 8 + 21 * i) (S' := 4) (Int.le_refl _) (by omega) (by omega)) (by omega) (by omega) (fun r2 H6 s6 la2 => ?_)
        try dsimp only [List.set]
        walk_at "zz"
        refine z_d2 (fun c1 => ?_) (fun c1 => absurd c0 c1)
        try dsimp only [List.set]
        walk_at "zz"
        refine z_d2 (fun c2 => absurd c2 (by omega)) (fun c2 => ?_)
        have sX := Same.trans (Same.trans s4 s5) s6
        try dsimp only [List.set]
        walk_at "zz"
        refine z_app rfl (sX _ _ hx) ?_
        try dsimp only [List.set]
        walk_at "zz"
        refine z_ap (sX _ _ hx) (by omega) ?_
        try dsimp only [List.set]
        walk_at "zz"
        exact ⟨_, _, _, xs ++ [.ref r2], _, rfl, put_but (b.trans (But.of sX)), upd_same, by rw [List.length_append, lx]; rfl, ((hLL.mono sX).snoc lx (la2.up (Int.le_refl _) (by omega) (by omega))).monoN (SameN.put (sX _ _ hx))⟩
      · try dsimp only [List.set]
        walk_at "zz"
        refine z_d2 (fun c1 => ?_) (fun c1 => absurd c0 c1)
        try dsimp only [List.set]
        walk_at "zz"
        refine z_d2 (fun c2 => ?_) (fun c2 => ?_)
        · try dsimp only [List.set]
          walk_at "zz"
          refine z_ixLst hx4 (v := .ref t0) (at_prev (by omega) ht0) ?_
          try dsimp only [List.set]
          walk_at "zz"
          refine u_ltu (hlp.mono s4) (by omega) (fun r1 H5 F1 s5 la1 => ?_)
          have sX := Same.trans s4 s5
          try dsimp only [List.set]
          walk_at "zz"
          refine z_app rfl (sX _ _ hx) ?_
          try dsimp only [List.set]
          walk_at "zz"
          refine z_ap (sX _ _ hx) (by omega) ?_
          try dsimp only [List.set]
          walk_at "zz"
          exact ⟨_, _, _, xs ++ [.ref r1], _, rfl, put_but (b.trans (But.of sX)), upd_same, by rw [List.length_append, lx]; rfl, ((hLL.mono sX).snoc lx (la1.up (Int.le_refl _) (by omega) (by omega))).monoN (SameN.put (sX _ _ hx))⟩
        · try dsimp only [List.set]
          walk_at "zz"
          refine z_app rfl (s4 _ _ hx) ?_
          try dsimp only [List.set]
          walk_at "zz"
          refine z_ap (s4 _ _ hx) (by omega) ?_
          try dsimp only [List.set]
          walk_at "zz"
          exact ⟨_, _, _, xs ++ [.ref r0], _, rfl, put_but (b.trans (But.of s4)), upd_same, by rw [List.length_append, lx]; rfl, ((hLL.mono s4).snoc lx (la0.up (Int.le_refl _) (by omega) (by omega))).monoN (SameN.put (s4 _ _ hx))⟩
    · try dsimp only [List.set]
      walk_at "zz"
      refine z_d2 (fun c1 => absurd c1 c0) (fun c1 => ?_)
      try dsimp only [List.set]
      walk_at "zz"
      refine z_app rfl (s4 _ _ hx) ?_
      try dsimp only [List.set]
      walk_at "zz"
      refine z_ap (s4 _ _ hx) (by omega) ?_
      try dsimp only [List.set]
      walk_at "zz"
      exact ⟨_, _, _, xs ++ [.ref r0], _, rfl, put_but (b.trans (But.of s4)), upd_same, by rw [List.length_append, lx]; rfl, ((hLL.mono s4).snoc lx (la0.up (Int.le_refl _) (by omega) (by omega))).monoN (SameN.put (s4 _ _ hx))⟩
  obtain ⟨o7, o8, o9, xs, Fs, rfl, b, hx, lx, hLL⟩ := I
  try dsimp only [List.set]
  walk_at "zz"
  exact q D0 Hi xs Fs (Same.trans sH2 (same_but hD0 fun a o ne e => b a o ne (s3 _ _ e))) hx (by omega) hLL
theorem c_law_forms (L : Lw K mg) : Cal P w K mg base 3 "_law_forms" (sp4 fs_lfo) [] := by
  obtain ⟨fd, F⟩ := L.d_law_forms
  exact ⟨⟨_, fd, ["cells", "count", "n", "wide"], [], ok_law_forms L F, L.g_law_forms, F.kp, F.bindsN (fun _ _ _ _ _ _ us hl => match us, hl with | [_, _, _, _], _ => rfl), .nil⟩⟩
end
end T
set_option maxHeartbeats 4000000
namespace T
open PySem PySem.Spec PyProof.Rows L2 Z
open S15
theorem u_mtFm {K : Frag} {H : Hp} {f p : Addr} {n : Nat} {d : Int} {m : Str} {R : Prop} (h : IsFm K H f n p d) (q : R) (h1 : ¬ m = "letters" := by decide +kernel) (h2 : ¬ m = "terms" := by decide +kernel) (h3 : ¬ m = "degree" := by decide +kernel) : zMt (He.ga K "Form") m (.ref f) H R := by
  obtain ⟨dx, e⟩ := h
  refine ⟨f, dx, _, rfl, e, ?_, q⟩
  unfold fF
  rw [lookup_put, if_neg h1, lookup_put, if_neg h2, lookup_put, if_neg h3]
  rfl
/-- the greatest degree -/
def Hg (Fs : Nat → Ex → Int) (m : Nat) (h : Int) : Prop := (∀ k, k < m → ∀ d, Dg (Fs k) d → d ≤ h) ∧ (h = -1 ∨ ∃ k, k < m ∧ Dg (Fs k) h)
theorem Dg.ge {F : Ex → Int} {d : Int} (h : Dg F d) : -1 ≤ d := by
  rcases h with ⟨e, _⟩ | ⟨e, _⟩ <;> omega
theorem Hg.uniq {Fs : Nat → Ex → Int} {m : Nat} {h h' : Int} (a : Hg Fs m h) (b : Hg Fs m h') : h = h' := by
  have k1 : ∀ {h h' : Int}, Hg Fs m h → Hg Fs m h' → h' = -1 ∨ h' ≤ h := fun {h h'} a b => by
    rcases b.2 with e | ⟨k, hk, g⟩
    · exact .inl e
    · exact .inr (a.1 k hk _ g)
  have g1 : -1 ≤ h := by
    rcases a.2 with e | ⟨k, hk, g⟩
    · omega
    · exact Dg.ge g
  have g2 : -1 ≤ h' := by
    rcases b.2 with e | ⟨k, hk, g⟩
    · omega
    · exact Dg.ge g
  have p := k1 a b
  have q := k1 b a
  omega
theorem hg_max {Fs : Nat → Ex → Int} {m : Nat} {dd : Nat → Int} {h : Int} (hd : ∀ k, k < m → Dg (Fs k) (dd k)) (h1 : h ∈ (-1 : Int) :: (List.range m).map dd) (h2 : ∀ y, y ∈ (-1 : Int) :: (List.range m).map dd → y ≤ h) : Hg Fs m h := by
  refine ⟨fun k hk d g => ?_, ?_⟩
  · rw [g.uniq (hd k hk)]
    exact h2 _ (List.mem_cons_of_mem _ (List.mem_map.mpr ⟨k, List.mem_range.mpr hk, rfl⟩))
  · rcases List.mem_cons.mp h1 with e | e
    · exact .inl e
    · obtain ⟨k, hk, ek⟩ := List.mem_map.mp e
      exact .inr ⟨k, List.mem_range.mp hk, by rw [← ek]; exact hd k (List.mem_range.mp hk)⟩
theorem Hg.le {Fs : Nat → Ex → Int} {m : Nat} {dd : Nat → Int} {h : Int} (g : Hg Fs m h) (hd : ∀ k, k < m → Dg (Fs k) (dd k)) {k : Nat} (hk : k < m) : Le (Fs k) h := by
  have l := g.1 k hk _ (hd k hk)
  rcases hd k hk with ⟨_, z⟩ | ⟨_, le, _⟩
  · exact fun e nz => absurd (z e) nz
  · exact fun e nz => by have := le e nz; omega
theorem tot_zero {W : Nat → Int} {L : Nat → List (Ex × Int)} {e : Ex} : ∀ {c : Nat}, (∀ k, k < c → ∀ e, vl (L k) e = 0) → tot W L c e = 0
  | 0, _ => rfl
  | c + 1, h => by
    have z : ∀ k, vl (L c) k = vl [] k := fun k => h c (Nat.lt_succ_self c) k
    show tot W L c e + W c * cv (L c) (L c) e = 0
    rw [tot_zero fun k hk => h k (by omega), cv_ext z z]
    show 0 + W c * 0 = 0
    simp
theorem Dg.hp' {F : Ex → Int} {d : Int} (h : Dg F d) (h0 : 0 ≤ d) : Dg (S15.hp d F) d := by
  rcases h with ⟨e, _⟩ | ⟨_, le, x, s, nz⟩
  · omega
  · refine .inr ⟨h0, fun e q => ?_, x, s, ?_⟩
    · refine le e fun z => q ?_
      unfold S15.hp
      rw [z]
      split <;> rfl
    · unfold S15.hp
      rw [if_pos s]
      exact nz
/-- a form of lesser degree added changes no top part -/
theorem top_add {Q G : Ex → Int} {h : Int} (hQ : Dg Q (h + h)) (hG : Le G h) (h0 : 0 < h) : Dg (fun e => Q e + G e) (h + h) ∧ S15.hp (h + h) (fun e => Q e + G e) = S15.hp (h + h) Q := by
  have z : ∀ e : Ex, e.sum = h + h → G e = 0 := fun e s => Classical.byContradiction fun q => by
    have := hG e q
    omega
  constructor
  · rcases hQ with ⟨e, _⟩ | ⟨_, le, x, s, nz⟩
    · omega
    · refine .inr ⟨by omega, fun e q => ?_, x, s, ?_⟩
      · by_cases c : Q e = 0
        · have : G e ≠ 0 := fun y => q (by show Q e + G e = 0; omega)
          have := hG e this
          omega
        · exact le e c
      · show Q x + G x ≠ 0
        rw [z x s]
        omega
  · funext e
    unfold S15.hp
    by_cases c : e.sum = h + h
    · rw [if_pos c, if_pos c]
      show Q e + G e = Q e
      rw [z e c]
      omega
    · rw [if_neg c, if_neg c]
def FoL (K : Frag) (H : Hp) (ys : List V) (n : Nat) (Fs : Nat → Ex → Int) : Prop := ∀ (k : Nat) y, ys[k]? = some y → ∃ f, y = .ref f ∧ Fo K H f n (Fs k) 6 200 16
theorem FoL.mono {K : Frag} {H H' : Hp} {ys : List V} {n : Nat} {Fs : Nat → Ex → Int} (s : Same H H') (h : FoL K H ys n Fs) : FoL K H' ys n Fs := fun k y e => by
  obtain ⟨f, e1, e2⟩ := h k y e
  exact ⟨f, e1, e2.mono s⟩
theorem Fo.bits {K : Frag} {H : Hp} {f : Addr} {n : Nat} {F : Ex → Int} {N : Int} {B S : Nat} (h : Fo K H f n F N B S) : ∀ e, Bits B (F e) := by
  obtain ⟨p, xs, R, h1, h2, h3, h4, h5, h6, h7, h8⟩ := h
  exact h7
theorem Fo.big {K : Frag} {H : Hp} {f : Addr} {n : Nat} {F : Ex → Int} {B : Nat} (h : Fo K H f n F 6 200 16) (hB : 300 ≤ B) : Fo K H f n (fun e => F e * 360) 2160 B 16 :=
  h.cast (by decide) ((b20 (by decide) (by decide)).up (by decide)) (fun k => by omega) fun e => ((h.bits e).mul (Bits.small (n := 9) (i := 360) (by decide) (by decide))).up (by omega)
theorem Le.scale {F : Ex → Int} {d : Int} (h : Le F d) (w : Int) : Le (fun e => F e * w) d := fun e q => h e fun z => q (by show F e * w = 0; rw [z, Int.zero_mul])
theorem Le.neg {F : Ex → Int} {d : Int} (h : Le F d) : Le (fun e => -F e) d := fun e q => h e fun z => q (by show -F e = 0; rw [z]; rfl)
def fs_lth (K : Frag) : F5 := fun a b c e f H Q _ => ∃ (n m : Nat) (tf g w u : Addr) (xs ys : List V) (Fs : Nat → Ex → Int) (L : Nat → List (Ex × Int)) (W : Nat → Int) (dd : Nat → Int) (h cc : Int) (B S B' S' : Nat), a = .int (n : Int) ∧ b = .ref tf ∧ c = .ref g ∧ e = .ref w ∧ f = .ref u ∧ n ≤ 6 ∧ m ≤ 4 ∧
  H g = some (.lst ys) ∧ H w = some (.lst xs) ∧ xs.length = m ∧ ys.length = m ∧ LaL H xs n Fs ∧ FoL K H ys n Fs ∧ (∀ k, k < m → Rp n (L k) (Fs k)) ∧ (∀ k, k < m → 0 < W k) ∧ (∀ k, k < m → Dg (Fs k) (dd k)) ∧ Hg Fs m h ∧
  Fo K H tf n (tot W L m) 2160 B S ∧ B ≤ 80000 ∧ 300 ≤ B ∧ S ≤ 50000 ∧ La H u n cc (tot W (fun k => hpl h (L k)) m) 2160 B' S' ∧ S' ≤ 50000 ∧ ∀ H', Same H H' → Q (.bl true) H'
local macro_rules | `(tactic| walk_at "z") => `(tactic| with_reducible refine z_fldS ?_)
local macro_rules | `(tactic| walk_at "z") => `(tactic| ((with_reducible refine' z_fdt ?zc1 ?zc2 ?zl2 ?_); (case zc1 => exact Lw.cl_Ratio (by assumption)); (case zc2 => exact Lw.na_Ratio_top (by assumption)); (case zl2 => walk_at "up")))
local macro_rules | `(tactic| walk_at "z") => `(tactic| ((with_reducible refine' z_fdb ?zc1 ?zc2 ?zl2 ?_); (case zc1 => exact Lw.cl_Ratio (by assumption)); (case zc2 => exact Lw.na_Ratio_bottom (by assumption)); (case zl2 => walk_at "up")))
local macro_rules | `(tactic| walk_at "z") => `(tactic| ((with_reducible refine' z_isTup ?zl1 ?_); (case zl1 => walk_at "up")))
local macro_rules | `(tactic| walk_at "z") => `(tactic| ((with_reducible refine' z_isR ?zl1 ?zl2 ?zl3 ?_); (case zl1 => exact Lw.in_Ratio (by assumption)); (case zl2 => exact Lw.kt_Ratio_Ratio (by assumption)); (case zl3 => walk_at "up")))
local macro_rules | `(tactic| walk_at "z") => `(tactic| ((with_reducible refine' z_isFm ?zl1 ?zl2 ?zl3 ?_); (case zl1 => exact Lw.in_Form (by assumption)); (case zl2 => exact Lw.kt_Form_Form (by assumption)); (case zl3 => walk_at "up")))
local macro_rules | `(tactic| walk_at "z") => `(tactic| with_reducible refine u_who ?_)
local macro_rules | `(tactic| walk_at "z") => `(tactic| with_reducible refine u_gcd ?_)
local macro_rules | `(tactic| walk_at "z") => `(tactic| ((with_reducible refine' u_mtFm ?zl1 ?_); (case zl1 => walk_at "up")))
local macro_rules | `(tactic| walk_at "up") => `(tactic| first
  | assumption
  | (refine' IsR.mono (by assumption) ?zup; case zup => walk_at "up")
  | (refine' IsE.mono (by assumption) ?zup; case zup => walk_at "up")
  | (refine' Same.at (by assumption) ?zup; case zup => walk_at "up")
  | (refine' SqL.of ?zup; case zup => walk_at "up")
  | (refine' L2.Same.seq (by assumption) ?zup; case zup => walk_at "up"))
local macro_rules | `(tactic| walk_at "z") => `(tactic| first
  | ((with_reducible refine' z_var ?zvh ?_); (case zvh => exact rfl))
  | with_reducible refine z_c ?_
  | with_reducible refine z_cons ?_
  | with_reducible refine z_nil ?_
  | with_reducible refine z_op ?_
  | with_reducible refine z_nx ?_
  | with_reducible refine z_seq ?_
  | with_reducible refine z_asg ?_
  | with_reducible refine z_asgG ?_
  | with_reducible refine z_call ?_
  | with_reducible refine z_sq0 ?_
  | with_reducible refine z_sq1 ?_
  | with_reducible refine z_ifS ?_
  | with_reducible refine z_test ?_
  | with_reducible refine z_tb ?_
  | with_reducible refine z_bl ?_
  | with_reducible refine z_blI ?_
  | with_reducible refine z_ret ?_
  | with_reducible refine z_rt ?_
  | with_reducible refine z_T ?_
  | with_reducible refine z_F ?_
  | with_reducible refine z_add ?_
  | with_reducible refine z_sub ?_
  | with_reducible refine z_neg ?_
  | with_reducible refine z_un ?_
  | with_reducible refine z_eqI ?_
  | with_reducible refine z_neI ?_
  | with_reducible refine z_lt ?_
  | with_reducible refine z_le ?_
  | with_reducible refine z_gt ?_
  | with_reducible refine z_ge ?_
  | with_reducible refine z_not ?_
  | with_reducible refine z_and ?_
  | with_reducible refine z_or ?_
  | with_reducible refine z_andV ?_
  | with_reducible refine z_orV ?_
  | with_reducible refine z_notV ?_
  | with_reducible refine z_if ?_
  | with_reducible refine z_cb ?_
  | with_reducible refine z_int1 ?_
  | with_reducible refine z_intb ?_
  | with_reducible refine z_abs ?_
  | with_reducible refine z_gcd ?_
  | with_reducible refine z_isi_ii ?_
  | with_reducible refine z_isi_ib ?_
  | with_reducible refine z_next ?_
  | with_reducible refine z_drop ?_
  | with_reducible refine z_par ?_
  | with_reducible refine z_par2 ?_
  | with_reducible refine z_tupN ?_
  | with_reducible refine z_lstN ?_
  | ((with_reducible refine' z_nt ?zl1 ?_); (case zl1 => exact Nat.le_of_ble_eq_true rfl); intro p H' hp hs he)
  | ((with_reducible refine' z_gtup ?zl1 ?zl2 ?_); (case zl1 => walk_at "up"); (case zl2 => exact rfl))
  | with_reducible refine z_bk ?_
  | with_reducible refine z_ct ?_
  | with_reducible refine z_break ?_
  | with_reducible refine z_cont ?_
  | with_reducible refine z_retN ?_
  | with_reducible refine z_nn ?_
  | with_reducible refine z_mk ?_
  | with_reducible refine z_gn ?_
  | with_reducible refine z_gcons ?_
  | with_reducible refine z_gnil ?_
  | with_reducible refine z_mt ?_
  | with_reducible refine z_mko ?_
  | with_reducible refine z_for2 ?_
  | with_reducible refine z_ownI ?_
  | ((with_reducible refine' z_lenL ?zl1 ?_); (case zl1 => walk_at "up"))
  | ((with_reducible refine' z_ixT ?zl1 ?zl2 ?_); (case zl1 => walk_at "up"); (case zl2 => exact rfl))
  | ((with_reducible refine' z_mulL ?zl1 ?zl2 ?_); (case zl1 => omega); (case zl2 => omega))
  | ((with_reducible refine' z_mulR ?zl1 ?zl2 ?_); (case zl1 => omega); (case zl2 => omega))
  | ((with_reducible refine' z_divS ?zl1 ?zl2 ?_); (case zl1 => omega); (case zl2 => omega))
  | ((with_reducible refine' z_mulW ?zl1 ?zl2 ?zl3 ?zl4 ?_); (case zl1 => omega); (case zl2 => omega); (case zl3 => omega); (case zl4 => omega))
  | ((with_reducible refine' z_divW ?zl1 ?zl2 ?_); (case zl1 => omega); (case zl2 => omega)))
local macro_rules | `(tactic| walk_at "zz") => `(tactic| repeat (walk_at "z"))
local macro_rules | `(tactic| walk_at "z") => `(tactic| with_reducible refine z_lstN ?_)
local macro_rules | `(tactic| walk_at "z") => `(tactic| with_reducible refine z_p6 ?_)
local macro_rules | `(tactic| walk_at "z") => `(tactic| with_reducible refine z_p12 ?_)
local macro_rules | `(tactic| walk_at "z") => `(tactic| with_reducible refine z_p13 ?_)
local macro_rules | `(tactic| walk_at "z") => `(tactic| with_reducible refine z_calln ?_)
local macro_rules | `(tactic| walk_at "z") => `(tactic| with_reducible refine z_xfS ?_)
local macro_rules | `(tactic| walk_at "z") => `(tactic| with_reducible refine z_lcS ?_)
local macro_rules | `(tactic| walk_at "z") => `(tactic| with_reducible refine z_lcRS ?_)
local macro_rules | `(tactic| walk_at "z") => `(tactic| with_reducible refine z_lcZS ?_)
local macro_rules | `(tactic| walk_at "z") => `(tactic| with_reducible refine z_foS ?_)
local macro_rules | `(tactic| walk_at "z") => `(tactic| with_reducible refine z_for1 ?_)
local macro_rules | `(tactic| walk_at "z") => `(tactic| with_reducible refine z_tsl ?_)
local macro_rules | `(tactic| walk_at "z") => `(tactic| with_reducible refine z_np ?_)
local macro_rules | `(tactic| walk_at "z") => `(tactic| with_reducible refine z_pt ?_)
local macro_rules | `(tactic| walk_at "z") => `(tactic| with_reducible refine z_pti ?_)
local macro_rules | `(tactic| walk_at "z") => `(tactic| with_reducible refine z_catI ?_)
local macro_rules | `(tactic| walk_at "z") => `(tactic| with_reducible refine z_isNI ?_)
local macro_rules | `(tactic| walk_at "z") => `(tactic| with_reducible refine z_isNN ?_)
local macro_rules | `(tactic| walk_at "z") => `(tactic| with_reducible refine z_notNI ?_)
local macro_rules | `(tactic| walk_at "z") => `(tactic| with_reducible refine z_notNN ?_)
local macro_rules | `(tactic| walk_at "z") => `(tactic| with_reducible refine z_gsub ?_)
local macro_rules | `(tactic| walk_at "z") => `(tactic| with_reducible refine z_isNb ?_)
local macro_rules | `(tactic| walk_at "z") => `(tactic| with_reducible refine z_notNb ?_)
local macro_rules | `(tactic| walk_at "z") => `(tactic| ((with_reducible refine' z_nlR ?zl1 ?_); (case zl1 => exact Nat.le_of_ble_eq_true rfl); intro p H' hp hs he))
local macro_rules | `(tactic| walk_at "z") => `(tactic| ((with_reducible refine' z_repR ?zl1 ?zl2 ?_); (case zl1 => omega); (case zl2 => omega)))
local macro_rules | `(tactic| walk_at "z") => `(tactic| ((with_reducible refine' z_repL ?zl1 ?zl2 ?_); (case zl1 => omega); (case zl2 => omega)))
local macro_rules | `(tactic| walk_at "z") => `(tactic| ((with_reducible refine' z_lenLst ?zl1 ?_); (case zl1 => walk_at "up")))
local macro_rules | `(tactic| walk_at "z") => `(tactic| ((with_reducible refine' z_cat ?zl1 ?zl2 ?zl3 ?_); (case zl1 => walk_at "up"); (case zl2 => walk_at "up"); (case zl3 => (simp only [List.length_map, List.length_cons, List.length_nil, List.length_append, List.length_replicate]; omega)); intro p H' hp hs he))
local macro_rules | `(tactic| walk_at "z") => `(tactic| with_reducible refine z_sfl ?_)
local macro_rules | `(tactic| walk_at "z") => `(tactic| with_reducible refine z_lcES ?_)
local macro_rules | `(tactic| walk_at "z") => `(tactic| with_reducible refine z_lcMS ?_)
local macro_rules | `(tactic| walk_at "z") => `(tactic| with_reducible refine z_foES ?_)
local macro_rules | `(tactic| walk_at "z") => `(tactic| with_reducible refine z_fo3S ?_)
local macro_rules | `(tactic| walk_at "z") => `(tactic| with_reducible refine z_sta ?_)
local macro_rules | `(tactic| walk_at "z") => `(tactic| with_reducible refine z_sta1 ?_)
local macro_rules | `(tactic| walk_at "z") => `(tactic| with_reducible refine z_lcTS ?_)
local macro_rules | `(tactic| walk_at "z") => `(tactic| with_reducible refine z_foTS ?_)
local macro_rules | `(tactic| walk_at "z") => `(tactic| with_reducible refine z_revTS ?_)
local macro_rules | `(tactic| walk_at "z") => `(tactic| with_reducible refine z_max2 ?_)
local macro_rules | `(tactic| walk_at "z") => `(tactic| ((with_reducible refine' z_fldt ?zc1 ?zc2 ?zl1 ?zl2 ?_); (case zc1 => exact Lw.cl_Ratio (by assumption)); (case zc2 => exact Lw.na_Ratio_top (by assumption)); (case zl1 => exact rfl); (case zl2 => walk_at "up")))
local macro_rules | `(tactic| walk_at "z") => `(tactic| ((with_reducible refine' z_fldb ?zc1 ?zc2 ?zl1 ?zl2 ?_); (case zc1 => exact Lw.cl_Ratio (by assumption)); (case zc2 => exact Lw.na_Ratio_bottom (by assumption)); (case zl1 => exact rfl); (case zl2 => walk_at "up")))
local macro_rules | `(tactic| walk_at "z") => `(tactic| ((with_reducible refine' u_mtF ?zl1 ?_); (case zl1 => walk_at "up")))
local macro_rules | `(tactic| walk_at "z") => `(tactic| ((with_reducible refine' z_ixLst ?zl1 ?zl2 ?_); (case zl1 => walk_at "up"); (case zl2 => exact rfl)))
local macro_rules | `(tactic| walk_at "z") => `(tactic| with_reducible refine z_yes ?_)
local macro_rules | `(tactic| walk_at "z") => `(tactic| with_reducible refine z_if1 ?_)
local macro_rules | `(tactic| walk_at "z") => `(tactic| with_reducible refine z_dg ?_)
local macro_rules | `(tactic| walk_at "z") => `(tactic| with_reducible refine z_di ?_)
local macro_rules | `(tactic| walk_at "z") => `(tactic| with_reducible refine z_dp ?_)
local macro_rules | `(tactic| walk_at "z") => `(tactic| with_reducible refine z_foKS ?_)
local macro_rules | `(tactic| walk_at "z") => `(tactic| with_reducible refine z_foPS ?_)
local macro_rules | `(tactic| walk_at "z") => `(tactic| with_reducible refine z_foTS ?_)
local macro_rules | `(tactic| walk_at "z") => `(tactic| with_reducible refine z_lcKS ?_)
local macro_rules | `(tactic| walk_at "z") => `(tactic| with_reducible refine z_lcTS ?_)
local macro_rules | `(tactic| walk_at "z") => `(tactic| with_reducible refine z_dcTS ?_)
local macro_rules | `(tactic| walk_at "z") => `(tactic| with_reducible refine z_dcPS ?_)
local macro_rules | `(tactic| walk_at "z") => `(tactic| with_reducible refine z_fixV ?_)
local macro_rules | `(tactic| walk_at "z") => `(tactic| with_reducible refine z_mkk ?_)
local macro_rules | `(tactic| walk_at "z") => `(tactic| with_reducible refine z_sta ?_)
local macro_rules | `(tactic| walk_at "z") => `(tactic| with_reducible refine z_sta1 ?_)
local macro_rules | `(tactic| walk_at "z") => `(tactic| with_reducible refine z_ckw ?_)
local macro_rules | `(tactic| walk_at "z") => `(tactic| with_reducible refine z_cmpD ?_)
local macro_rules | `(tactic| walk_at "z") => `(tactic| with_reducible refine z_pk1 ?_)
local macro_rules | `(tactic| walk_at "z") => `(tactic| with_reducible refine z_tBD ?_)
local macro_rules | `(tactic| walk_at "z") => `(tactic| ((with_reducible refine' z_fl ?zc1 ?zc2 ?zl1 ?zl2 ?_); (case zc1 => exact Lw.cl_Form (by assumption)); (case zc2 => exact Lw.na_Form_letters (by assumption)); (case zl1 => exact rfl); (case zl2 => walk_at "up")))
local macro_rules | `(tactic| walk_at "z") => `(tactic| ((with_reducible refine' z_ft ?zc1 ?zc2 ?zl1 ?zl2 ?_); (case zc1 => exact Lw.cl_Form (by assumption)); (case zc2 => exact Lw.na_Form_terms (by assumption)); (case zl1 => exact rfl); (case zl2 => walk_at "up")))
local macro_rules | `(tactic| walk_at "z") => `(tactic| ((with_reducible refine' z_fd ?zc1 ?zc2 ?zl1 ?zl2 ?_); (case zc1 => exact Lw.cl_Form (by assumption)); (case zc2 => exact Lw.na_Form_degree (by assumption)); (case zl1 => exact rfl); (case zl2 => walk_at "up")))
theorem sameFJ {H H1 H2 : Hp} (h : Same H1 H2) (e : Same H H1) : Same H H2 := e.trans h
local macro_rules | `(tactic| walk_at "sm") => `(tactic| first
  | assumption
  | exact fun _ _ h => h
  | (refine' sameFJ (by assumption) ?zsm; case zsm => walk_at "sm"))
local macro_rules | `(tactic| walk_at "up") => `(tactic| first
  | assumption
  | (with_reducible refine' IsR.mono (by assumption) ?zup; case zup => walk_at "up")
  | (with_reducible refine' Fr.mono (by assumption) ?zup; case zup => walk_at "up")
  | (with_reducible refine' IsFm.mono (by assumption) ?zup; case zup => walk_at "up")
  | (with_reducible refine' Frz.mono (by assumption) ?zup; case zup => walk_at "up")
  | (with_reducible refine' Fo.mono (by assumption) ?zup; case zup => walk_at "up")
  | (with_reducible refine' La.mono (by assumption) ?zup; case zup => walk_at "up")
  | (with_reducible refine' Ta.mono (by assumption) ?zup; case zup => walk_at "up")
  | (with_reducible refine' PrL.mono (by assumption) ?zup; case zup => walk_at "up")
  | (with_reducible refine' EnA.mono (by assumption) ?zup; case zup => walk_at "up")
  | (with_reducible refine' Srt.mono (by assumption) ?zup; case zup => walk_at "up")
  | (with_reducible refine' Same.at (by assumption) ?zup; case zup => walk_at "up")
  | fail)
section
variable {P : Program} {w : World} {K : Frag} {mg : Str → Option Value} {base : Heap}
theorem ok_law_tops_hold (L : Lw K mg) {fd : FuncData} (F : FunD K "_law_tops_hold" "_law_tops_hold" (defArgs s_law_tops_hold) (defBody s_law_tops_hold) (defScope s_law_tops_hold) (df_law_tops_hold.dvs K) (df_law_tops_hold.kws K) (He.fAd K ("_law_tops_hold", none)) fd) : FnOk P w K mg base (L2N.CX P w) 10 (He.fAd K ("_law_tops_hold", none)) fd (["n", "total", "forms", "own", "due"] : List Str) (sp5 (fs_lth K)) := by
  refine FunD.ok F sc_law_tops_hold len5 (fun cdv A outer s H vs Q E hr h => ?_)
  obtain ⟨a, b, c, e, f, rfl, h⟩ := h
  refine ⟨_, (pss_cons (ps_set (i := 5) sc_law_tops_hold.nd rfl (by first | exact Or.inl rfl | exact Or.inr rfl) (pe_callB (callK rMax (K := K) rfl (cr_max rfl)) (by rfl) L.f_max (by decide +kernel) (pa_cons (pe_op (op_or2 o_cat (op_own (by rfl) L.sf_Form (c_FormD_addD (K := K) L) hr (by decide) passF)) (pe_lst (pa_cons (pe_un o_neg pe_int) pa_nil)) (pe_lc (own := [("a", 6)]) (g := (gName 6)) (tt := tYes) rfl sc_law_tops_hold.nd (pi_listK (K := K) rfl (pv 3)) (blkOk_by (N := ["n", "total", "forms", "own", "due", "high", "a", "k"]) (sc := defScope s_law_tops_hold) (by decide +kernel)) (fun _ _ _ _ _ => pg_name (i := 6) sc_law_tops_hold.nd rfl (Or.inl rfl)) (fun _ _ _ _ _ => pts_nil) (fun _ _ _ _ _ => (pe_c (c_law_degree (K := K) L) hr (by decide) takesF (pa_cons (pv 6) pa_nil))))) pa_nil)))
    (pss_cons (ps_for (passes_of rfl) rfl (pi_range1 (by rfl) L.f_range (pa_cons (pe_callB (callK rLen1 (K := K) rfl o_len) (by rfl) L.f_len (by decide +kernel) (pa_cons (pv 3) pa_nil)) pa_nil)) (pg_name (i := 7) sc_law_tops_hold.nd rfl (by first | exact Or.inl rfl | exact Or.inr rfl)) (pss_cons (ps_if (pt_not (pt_val (pe_c (c_law_is_form (K := K) L) hr (by decide) (L2N.takes_of rfl rfl rfl rfl) (pa_cons (pe_ix (ix_seqK (K := K) rfl) (pv 2) (pv 7) (fun _ _ => rfl)) (pa_cons (pv 0) (pa_cons (pe_ix (ix_seqK (K := K) rfl) (pv 3) (pv 7) (fun _ _ => rfl)) pa_nil)))))) (pss_one (ps_ret pe_bl)) pss_nil)
    (pss_cons (ps_if (pt_not (pt_val (pe_c (c_law_is_form (K := K) L) hr (by decide) (L2N.takes_of rfl rfl rfl rfl) (pa_cons (pe_mt0 (c_Form_top_part (K := K) L) hr (by decide) (L2N.takes_of rfl rfl rfl rfl) (pe_ix (ix_seqK (K := K) rfl) (pv 2) (pv 7) (fun _ _ => rfl))) (pa_cons (pv 0) (pa_cons (pe_c (c_law_top_of (K := K) L) hr (by decide) (L2N.takes_of rfl rfl rfl rfl) (pa_cons (pe_ix (ix_seqK (K := K) rfl) (pv 3) (pv 7) (fun _ _ => rfl)) pa_nil)) pa_nil)))))) (pss_one (ps_ret pe_bl)) pss_nil)
    (pss_one (ps_if (pt_cmpR o_gt (pv 5) pe_int (nomark _)) (pss_cons (ps_if (pt_not (pt_val (pe_c (c_law_is_form (K := K) L) hr (by decide) (L2N.takes_of rfl rfl rfl rfl) (pa_cons (pe_mt0 (c_Form_top_part (K := K) L) hr (by decide) (L2N.takes_of rfl rfl rfl rfl) (pe_op (op_or2 o_cat (op_own (by rfl) L.sf_Form (c_FormD_addD (K := K) L) hr (by decide) passF)) (pv 1) (pe_ix (ix_seqK (K := K) rfl) (pv 2) (pv 7) (fun _ _ => rfl)))) (pa_cons (pv 0) (pa_cons (pv 4) pa_nil)))))) (pss_one (ps_ret pe_bl)) pss_nil)
    (pss_one (ps_if (pt_not (pt_val (pe_c (c_law_is_form (K := K) L) hr (by decide) (L2N.takes_of rfl rfl rfl rfl) (pa_cons (pe_mt0 (c_Form_top_part (K := K) L) hr (by decide) (L2N.takes_of rfl rfl rfl rfl) (pe_op (op_or2 o_sub (op_own (by rfl) L.sf_Form (c_FormD_subD (K := K) L) hr (by decide) passF)) (pv 1) (pe_ix (ix_seqK (K := K) rfl) (pv 2) (pv 7) (fun _ _ => rfl)))) (pa_cons (pv 0) (pa_cons (pv 4) pa_nil)))))) (pss_one (ps_ret pe_bl)) pss_nil))) pss_nil)))))
    (pss_cons (ps_if (pt_cmpR o_lt (pv 5) pe_int (nomark _)) (pss_one (ps_ret (pe_c (c_law_is_form (K := K) L) hr (by decide) (L2N.takes_of rfl rfl rfl rfl) (pa_cons (pv 1) (pa_cons (pv 0) (pa_cons (pe_tup (pa_cons pe_int (pa_cons (pe_fixV pe_dnewT) pa_nil))) pa_nil)))))) pss_nil)
    (pss_cons (ps_if (PW.pt (pw_or (pt_cmpR op_ne (pe_fld (pv 1) rfl) (pe_op o_rep pe_int (pv 5)) (nomark _)) (pw_or1 (pt_cmpR op_eq (pe_callB (callK rLen1 (K := K) rfl o_len) (by rfl) L.f_len (by decide +kernel) (pa_cons (pe_c (c_law_in_order (K := K) L) hr (by decide) (L2N.takes_of rfl rfl rfl rfl) (pa_cons (pv 4) pa_nil)) pa_nil)) pe_int (nomark _))))) (pss_one (ps_ret pe_bl)) pss_nil)
    (pss_one (ps_ret (pe_cmpR op_eq (pe_callB (callK rSumS (K := K) rfl (cr_sumS rfl)) (by rfl) L.f_sum (by decide +kernel) (pa_cons (pe_ix (ix_seqK (K := K) rfl) (pe_c (c_law_in_order (K := K) L) hr (by decide) (L2N.takes_of rfl rfl rfl rfl) (pa_cons (pv 4) pa_nil)) pe_int (fun _ _ => rfl)) pa_nil)) (pe_op o_rep pe_int (pv 5)) (nomark _)))))))), ?_⟩
  rw [show L2.start (["n", "total", "forms", "own", "due", "high", "a", "k"] : List Str) [a, b, c, e, f] = [some a, some b, some c, some e, some f, none, none, none] from rfl]
  obtain ⟨n, m, tf, g, w, u, xs, ys, Fs, L0, W, dd, h, cc, B, S, B', S', rfl, rfl, rfl, rfl, rfl, hn, hm, hg, hw, lx, ly, hLL, hFL, hR, hW, hdd, hHg, hT, hB, hB3, hS, hU, hS', fin⟩ := h
  try dsimp only [List.set]
  walk_at "zz"
  rename_i pm Hm hpm sm em
  refine z_lcVF (fun k => V.int (dd k)) (sm _ _ hw) (by omega) (fun k x H2 Nx hx s2 cc => ⟨rfl, ?_⟩) (fun D2 H2 hD2 s2 h2 => ?_)
  · obtain ⟨t, rfl, la⟩ := (hLL.mono (Same.trans sm s2)) k x hx
    have km : k < m := by
      rw [← lx]
      exact (List.getElem?_eq_some_iff.mp hx).1
    try dsimp only [List.set]
    walk_at "zz"
    refine u_deg la (by omega) (fun d H3 s3 g3 => ?_)
    rw [g3.uniq (hdd k km)]
    exact cc _ s3
  have em2 := s2 _ _ em
  rw [lx] at h2
  have h2' : H2 D2 = some (.lst (((List.range m).map dd).map V.int)) := by
    rw [h2, List.map_map]
    rfl
  refine .inl (z_cat em2 h2' (by rw [List.length_map, List.length_map, List.length_range]; show 1 + _ ≤ _; omega) (fun p4 H4 hp4 s4 h4 => ?_))
  have h5 : H4 p4 = some (.lst (((-1 : Int) :: (List.range m).map dd).map V.int)) := h4
  try dsimp only [List.set]
  walk_at "zz"
  refine z_maxL h5 (by simp) (fun h' m1 m2 => ?_)
  have eh : h' = h := (hg_max hdd m1 m2).uniq hHg
  subst eh
  have sH := Same.trans (Same.trans sm s2) s4
  have hg4 := sH _ _ hg
  have hw4 := sH _ _ hw
  have hLL4 := hLL.mono sH
  have hFL4 := hFL.mono sH
  have hT4 := hT.mono sH
  have hU4 := hU.mono sH
  try dsimp only [List.set]
  walk_at "zz"
  rw [lx]
  refine z_foR (by omega) (by omega) (fun i σ Hi => ∃ o6 o7, σ = [some (V.int (n : Int)), some (V.ref tf), some (V.ref g), some (V.ref w), some (V.ref u), some (V.int h'), o6, o7] ∧ Same H4 Hi) ⟨_, _, rfl, fun _ _ h => h⟩ (fun i σ Hi hi I => ?_) (fun σ Hi I => ?_)
  · obtain ⟨o6, o7, rfl, sI⟩ := I
    have im : i < m := by omega
    obtain ⟨f, ef, hf⟩ := (hFL4.mono sI) i _ (List.getElem?_eq_getElem (by omega : i < ys.length))
    obtain ⟨t, et, ht⟩ := (hLL4.mono sI) i _ (List.getElem?_eq_getElem (by omega : i < xs.length))
    have ey : ys[i]? = some (.ref f) := by rw [List.getElem?_eq_getElem (by omega : i < ys.length), ef]
    have ex : xs[i]? = some (.ref t) := by rw [List.getElem?_eq_getElem (by omega : i < xs.length), et]
    have hgi := sI _ _ hg4
    have hwi := sI _ _ hw4
    try dsimp only [List.set]
    walk_at "zz"
    refine z_ixLst hgi (atI_nat ey) ?_
    try dsimp only [List.set]
    walk_at "zz"
    refine z_ixLst hwi (atI_nat ex) ?_
    try dsimp only [List.set]
    walk_at "zz"
    refine u_isf hf ht (by omega) (by omega) (fun H5 s5 => ?_)
    try dsimp only [List.set]
    walk_at "zz"
    refine z_ixLst (s5 _ _ hgi) (atI_nat ey) ?_
    obtain ⟨_, _, _, hfm5, _⟩ := hf.mono s5
    try dsimp only [List.set]
    walk_at "zz"
    refine ⟨_, rfl, f, n, Fs i, 6, 200, 16, dd i, rfl, hf.mono s5, by decide, hdd i im, fun x1 H6 s6 f6 => ?_⟩
    try dsimp only [List.set]
    walk_at "zz"
    refine z_ixLst (s6 _ _ (s5 _ _ hwi)) (atI_nat ex) ?_
    try dsimp only [List.set]
    walk_at "zz"
    refine u_lto (ht.mono (Same.trans s5 s6)) (by omega) (hdd i im) (fun r1 H7 s7 l7 => ?_)
    try dsimp only [List.set]
    walk_at "zz"
    refine u_isf (f6.mono s7) l7 (by omega) (by omega) (fun H8 s8 => ?_)
    have sA := Same.trans (Same.trans (Same.trans s5 s6) s7) s8
    have hTi := hT4.mono sI
    have hUi := hU4.mono sI
    try dsimp only [List.set]
    walk_at "zz"
    refine z_d2 (fun c => ?_) (fun c => ?_)
    · have hQ : Dg (tot W L0 m) (h' + h') := by
        rcases hHg.2 with z | ⟨k, hk, g⟩
        · omega
        · rcases g with ⟨z, _⟩ | ⟨_, _, x, sx, nz⟩
          · omega
          · exact tot_hp (by omega) (fun k hk => ⟨hR k hk, hHg.le hdd hk, hW k hk⟩) ⟨k, x, hk, sx, nz⟩
      have eTop : S15.hp (h' + h') (tot W L0 m) = tot W (fun k => hpl h' (L0 k)) m := funext fun e => tot_top m (fun k hk => ⟨hR k hk, hHg.le hdd hk⟩) e
      have lei := Le.scale (hHg.le hdd im) 360
      have t1 := top_add hQ lei c
      have t2 := top_add hQ (Le.neg lei) c
      have hTA := hTi.mono sA
      have hKA := (hf.mono sA).big hB3
      obtain ⟨_, _, _, ⟨dT, hfTA⟩, _⟩ := id hTA
      obtain ⟨_, _, _, ⟨dK, hfKA⟩, _⟩ := id hKA
      try dsimp only [List.set]
      walk_at "zz"
      refine z_ixLst (sA _ _ hgi) (atI_nat ey) ?_
      try dsimp only [List.set]
      walk_at "zz"
      refine z_own2 hfTA hfKA ⟨_, _, rfl, tf, f, n, _, _, 2160, B, S, 16, rfl, rfl, hTA, hKA, by omega, by omega, fun x2 H9 s9 f9 => ⟨⟨x2, rfl⟩, ?_⟩⟩
      obtain ⟨_, _, _, hfm9, _⟩ := id f9
      try dsimp only [List.set]
      walk_at "zz"
      refine ⟨_, rfl, x2, n, _, 2160, B + 1, S + 16, h' + h', rfl, f9, by omega, t1.1, fun x3 H10 s10 f10 => ?_⟩
      rw [t1.2, eTop] at f10
      try dsimp only [List.set]
      walk_at "zz"
      have sB := Same.trans (Same.trans sA s9) s10
      refine u_isf f10 (hUi.mono sB) (by omega) (by omega) (fun H11 s11 => ?_)
      have sC := Same.trans sB s11
      have hTC := hTi.mono sC
      have hKC := (hf.mono sC).big hB3
      obtain ⟨_, _, _, ⟨dT2, hfTC⟩, _⟩ := id hTC
      obtain ⟨_, _, _, ⟨dK2, hfKC⟩, _⟩ := id hKC
      try dsimp only [List.set]
      walk_at "zz"
      refine z_ixLst (sC _ _ hgi) (atI_nat ey) ?_
      try dsimp only [List.set]
      walk_at "zz"
      refine z_own2 hfTC hfKC ⟨_, _, rfl, tf, f, n, _, _, 2160, B, S, 16, rfl, rfl, hTC, hKC, by omega, by omega, fun x4 H12 s12 f12 => ⟨⟨x4, rfl⟩, ?_⟩⟩
      have e12 : (fun e => tot W L0 m e - Fs i e * 360) = fun e => tot W L0 m e + -(Fs i e * 360) := funext fun e => Int.sub_eq_add_neg
      rw [e12] at f12
      obtain ⟨_, _, _, hfm12, _⟩ := id f12
      try dsimp only [List.set]
      walk_at "zz"
      refine ⟨_, rfl, x4, n, _, 2160, B + 1, S + 16, h' + h', rfl, f12, by omega, t2.1, fun x5 H13 s13 f13 => ?_⟩
      rw [t2.2, eTop] at f13
      try dsimp only [List.set]
      walk_at "zz"
      have sD := Same.trans (Same.trans sC s12) s13
      refine u_isf f13 (hUi.mono sD) (by omega) (by omega) (fun H14 s14 => ?_)
      try dsimp only [List.set]
      walk_at "zz"
      exact ⟨_, _, rfl, Same.trans (Same.trans sI sD) s14⟩
    · try dsimp only [List.set]
      walk_at "zz"
      exact ⟨_, _, rfl, Same.trans sI sA⟩
  obtain ⟨o6, o7, rfl, sI⟩ := I
  have hTi := hT4.mono sI
  have hUi := hU4.mono sI
  try dsimp only [List.set]
  walk_at "zz"
  refine z_d2 (fun c => ?_) (fun c => ?_)
  · have h1 : h' = -1 := by
      rcases hHg.2 with z | ⟨k, hk, g⟩
      · exact z
      · have := Dg.ge g
        omega
    have eQ : tot W L0 m = fun _ => 0 := funext fun e => tot_zero fun k hk e => by
      rw [(hR k hk).1]
      rcases hdd k hk with ⟨_, z⟩ | ⟨z, _⟩
      · exact z e
      · have := hHg.1 k hk _ (hdd k hk)
        omega
    rw [eQ] at hTi
    try dsimp only [List.set]
    walk_at "zz"
    refine z_dnew (f := V.int) fun D hD => ?_
    refine ⟨D, _, rfl, upd_same, True.intro, fun oo => ?_⟩
    have sE : Same Hi (upd (upd Hi D (.dT (enT V.int []))) D (.frz oo (.dT (enT V.int [])))) := Same.put (Same.new hD) hD
    have hE : Frz (upd (upd Hi D (.dT (enT V.int []))) D (.frz oo (.dT (enT V.int [])))) D V.int [] := Frz.new
    generalize (upd (upd Hi D (.dT (enT V.int []))) D (.frz oo (.dT (enT V.int [])))) = HE at *
    try dsimp only [List.set]
    walk_at "zz"
    rename_i r H9 hr s9 er
    have la0 : La H9 r n 40 (fun _ => 0) 2160 0 0 := ⟨1, D, [], er, ⟨hE.mono s9, nd_nil, (fun p m => nomatch m), Nat.le_refl _⟩, by decide, ⟨2160, rfl⟩, by decide, by decide, fun e => by
      show (0 : Int) * 2160 = 0 * 1
      decide⟩
    refine u_isf (hTi.mono (Same.trans sE s9)) la0 (by decide) (by omega) (fun H10 s10 => ?_)
    try dsimp only [List.set]
    walk_at "zz"
    exact fin H10 (Same.trans (Same.trans (Same.trans (Same.trans sH sI) sE) s9) s10)
  have h0 : 0 ≤ h' := by
    rcases hHg.2 with z | ⟨k, hk, g⟩
    · omega
    · have := Dg.ge g
      omega
  have hQ : Dg (tot W L0 m) (h' + h') := by
    rcases hHg.2 with z | ⟨k, hk, g⟩
    · omega
    · rcases g with ⟨z, _⟩ | ⟨_, _, x, sx, nz⟩
      · omega
      · exact tot_hp h0 (fun k hk => ⟨hR k hk, hHg.le hdd hk, hW k hk⟩) ⟨k, x, hk, sx, nz⟩
  have eTop : S15.hp (h' + h') (tot W L0 m) = tot W (fun k => hpl h' (L0 k)) m := funext fun e => tot_top m (fun k hk => ⟨hR k hk, hHg.le hdd hk⟩) e
  have hU2 : Dg (tot W (fun k => hpl h' (L0 k)) m) (h' + h') := by
    rw [← eTop]
    exact Dg.hp' hQ (by omega)
  obtain ⟨pT, xT, RT, hfmT, _, _, hsT, _⟩ := id hTi
  have edT : dgl (ks RT) = h' + h' := hsT.cn.dg.uniq hQ
  rw [edT] at hfmT
  try dsimp only [List.set]
  walk_at "zz"
  refine z_d2 (fun c2 => ?_) (fun c2 => absurd (by omega) c2)
  try dsimp only [List.set]
  walk_at "zz"
  refine u_ino hUi (by omega) (fun D9 H9 y9 l9 s9 h9 hky9 cn9 ll9 => ?_)
  have ed9 : dgl l9 = h' + h' := cn9.dg.uniq hU2
  obtain ⟨e0, r0, el0⟩ : ∃ e0 r0, l9 = e0 :: r0 := by
    cases l9 with
    | nil =>
      have : (-1 : Int) = h' + h' := ed9
      omega
    | cons a r => exact ⟨a, r, rfl⟩
  have ly9 : 0 < y9.length := by
    rw [hky9.1, el0]
    simp
  try dsimp only [List.set]
  walk_at "zz"
  refine z_d2 (fun c3 => absurd c3 (by omega)) (fun c3 => ?_)
  try dsimp only [List.set]
  walk_at "zz"
  refine u_ino (hUi.mono s9) (by omega) (fun D8 H8 y8 l8 s8 h8 hky8 cn8 ll8 => ?_)
  have ed8 : dgl l8 = h' + h' := cn8.dg.uniq hU2
  obtain ⟨e1, r1, el1⟩ : ∃ e0 r0, l8 = e0 :: r0 := by
    cases l8 with
    | nil =>
      have : (-1 : Int) = h' + h' := ed8
      omega
    | cons a r => exact ⟨a, r, rfl⟩
  obtain ⟨q8, hy8, hq8⟩ := hky8.at (k := 0) (e := e1) (by rw [el1]; rfl)
  have es1 : e1.sum = h' + h' := by
    rw [← ed8, el1]
    rfl
  try dsimp only [List.set]
  walk_at "zz"
  refine z_ixLst h8 (v := .ref q8) (atI_nat (j := 0) hy8) ?_
  try dsimp only [List.set]
  walk_at "zz"
  refine z_sumT hq8 ?_
  try dsimp only [List.set]
  walk_at "zz"
  rw [decide_eq_true (show e1.sum = 2 * h' by omega)]
  exact fin H8 (Same.trans (Same.trans (Same.trans sH sI) s9) s8)
theorem c_law_tops_hold (L : Lw K mg) : Cal P w K mg base 10 "_law_tops_hold" (sp5 (fs_lth K)) [] := by
  obtain ⟨fd, F⟩ := L.d_law_tops_hold
  exact ⟨⟨_, fd, ["n", "total", "forms", "own", "due"], [], ok_law_tops_hold L F, L.g_law_tops_hold, F.kp, F.bindsN (fun _ _ _ _ _ _ us hl => match us, hl with | [_, _, _, _, _], _ => rfl), .nil⟩⟩
end
end T
set_option maxHeartbeats 4000000
namespace T
open PySem PySem.Spec PyProof.Rows L2 Z
open S15
theorem La.rp {H : Hp} {t : Addr} {n : Nat} {c : Int} {F : Ex → Int} {N : Int} {B S : Nat} (h : La H t n c F N B S) : ∃ L, Rp n L F := by
  obtain ⟨o, d, T, h1, h2, h3, h4, h5, h6, h7⟩ := h
  refine ⟨scl (N / o) T, fun k => ?_, fun p m => ?_⟩
  · rw [vl_scl]
    refine mul_cancel h3 ?_
    have e1 : N / o * o = N := Int.ediv_mul_cancel h4
    have e2 : N / o * vl T k * o = vl T k * (N / o * o) := by grind
    rw [e2, e1]
    exact h7 k
  · obtain ⟨q, mq, rfl⟩ := List.mem_map.mp m
    exact h2.rp q mq
theorem maxz : ∀ {l : List Int}, l ≠ [] → ∃ m, m ∈ l ∧ ∀ y, y ∈ l → y ≤ m
  | [], h => absurd rfl h
  | [x], _ => ⟨x, List.mem_cons_self, fun y m => by
    rw [List.mem_singleton.mp m]
    exact Int.le_refl _⟩
  | x :: y :: r, _ => by
    obtain ⟨m, mm, hm⟩ := maxz (l := y :: r) (by simp)
    by_cases c : m ≤ x
    · refine ⟨x, List.mem_cons_self, fun z mz => ?_⟩
      rcases List.mem_cons.mp mz with e | mz
      · omega
      · have := hm z mz
        omega
    · refine ⟨m, List.mem_cons_of_mem _ mm, fun z mz => ?_⟩
      rcases List.mem_cons.mp mz with e | mz
      · omega
      · exact hm z mz
theorem Rp.dg {n : Nat} {L : List (Ex × Int)} {F : Ex → Int} (r : Rp n L F) : ∃ d, Dg F d := by
  by_cases z : ∀ e, F e = 0
  · exact ⟨-1, .inl ⟨rfl, z⟩⟩
  · have : ∃ e, F e ≠ 0 := Classical.byContradiction fun q => z fun e => Classical.byContradiction fun w => q ⟨e, w⟩
    obtain ⟨e, he⟩ := this
    have key : ∀ e, F e ≠ 0 → ∃ p, p ∈ L.filter (fun p => decide (F p.1 ≠ 0)) ∧ p.1 = e := fun e he => by
      obtain ⟨p, mp, ep⟩ := vl_mem (L := L) (k := e) (by rw [r.1]; exact he)
      exact ⟨p, List.mem_filter.mpr ⟨mp, decide_eq_true (by rw [ep]; exact he)⟩, ep⟩
    obtain ⟨p0, m0, _⟩ := key e he
    obtain ⟨d, hd, up⟩ := maxz (l := (L.filter (fun p => decide (F p.1 ≠ 0))).map fun p => p.1.sum) (List.ne_nil_of_mem (List.mem_map_of_mem m0))
    obtain ⟨p, mp, ep⟩ := List.mem_map.mp hd
    have mp2 := List.mem_filter.mp mp
    refine ⟨d, .inr ⟨?_, fun f hf => ?_, p.1, ep, of_decide_eq_true mp2.2⟩⟩
    · rw [← ep]
      exact sum_nn (r.2 p mp2.1).2
    · obtain ⟨q, mq, eq⟩ := key f hf
      rw [← eq]
      exact up _ (List.mem_map.mpr ⟨q, mq, rfl⟩)
theorem tot_skip {W : Nat → Int} {L : Nat → List (Ex × Int)} {i : Nat} (z : ∀ e, vl (L i) e = 0) : tot W L (i + 1) = tot W L i := by
  funext e
  show tot W L i e + W i * cv (L i) (L i) e = _
  rw [cv_ext (L' := []) (M' := []) z z]
  show tot W L i e + W i * 0 = _
  rw [Int.mul_zero, Int.add_zero]
theorem Dg.low {F : Ex → Int} {d h : Int} (g : Dg F d) (l : d ≤ h) (ne : d ≠ h) (e : Ex) : S15.hp h F e = 0 := by
  unfold S15.hp
  split
  · rcases g with ⟨_, z⟩ | ⟨_, le, _⟩
    · exact z e
    · refine Classical.byContradiction fun q => ?_
      have := le e q
      omega
  · rfl
theorem top_all {n m : Nat} {W : Nat → Int} {L : Nat → List (Ex × Int)} {Fs : Nat → Ex → Int} {dd : Nat → Int} {h q : Int} (hR : ∀ k, k < m → Rp n (L k) (Fs k)) (hW : ∀ k, k < m → 0 < W k) (hd : ∀ k, k < m → Dg (Fs k) (dd k)) (g : Hg Fs m h) (gq : Dg (tot W L m) q) :
    S15.hp q (tot W L m) = tot W (fun k => hpl h (L k)) m := by
  by_cases c : h = -1
  · have z : ∀ k, k < m → ∀ e, Fs k e = 0 := fun k hk => by
      rcases hd k hk with ⟨_, z⟩ | ⟨p, _⟩
      · exact z
      · have := g.1 k hk _ (hd k hk)
        omega
    funext e
    have a1 : tot W L m e = 0 := tot_zero fun k hk e => by rw [(hR k hk).1]; exact z k hk e
    have a2 : tot W (fun k => hpl h (L k)) m e = 0 := tot_zero fun k hk e => by
      rw [(Rp.hp (h := h) (hR k hk)).1]
      unfold S15.hp
      rw [z k hk]
      split <;> rfl
    rw [a2]
    unfold S15.hp
    rw [a1]
    split <;> rfl
  · rcases g.2 with e | ⟨k, hk, gk⟩
    · exact absurd e c
    · rcases gk with ⟨z, _⟩ | ⟨h0, _, x, sx, nz⟩
      · exact absurd z c
      · have t := tot_hp h0 (fun k hk => ⟨hR k hk, g.le hd hk, hW k hk⟩) ⟨k, x, hk, sx, nz⟩
        rw [gq.uniq t]
        exact funext fun e => tot_top m (fun k hk => ⟨hR k hk, g.le hd hk⟩) e
/-- the weights over 2160 -/
def wg (u : Nat → Int) (k : Nat) : Int := u k * (60 / ((k : Int) + 2))
theorem k4 {i : Nat} (h : i < 4) : i = 0 ∨ i = 1 ∨ i = 2 ∨ i = 3 := by omega
theorem wg_pos {u : Nat → Int} {k : Nat} (h : 1 ≤ u k) (hk : k < 4) : 0 < wg u k := by
  unfold wg
  rcases k4 hk with rfl | rfl | rfl | rfl <;> refine Int.mul_pos (by omega) (by decide)
theorem wg_le {u : Nat → Int} {k : Nat} (h : 1 ≤ u k) (h7 : u k ≤ 7) (hk : k < 4) : Bits 8 (wg u k) := by
  have e8 : (2 : Nat) ^ 8 = 256 := by decide
  unfold wg Bits
  rcases k4 hk with rfl | rfl | rfl | rfl
  · have : (60 : Int) / (((0 : Nat) : Int) + 2) = 30 := by decide
    rw [this]
    omega
  · have : (60 : Int) / (((1 : Nat) : Int) + 2) = 20 := by decide
    rw [this]
    omega
  · have : (60 : Int) / (((2 : Nat) : Int) + 2) = 15 := by decide
    rw [this]
    omega
  · have : (60 : Int) / (((3 : Nat) : Int) + 2) = 12 := by decide
    rw [this]
    omega
theorem wg_eq {u : Nat → Int} {k : Nat} (hk : k < 4) (c : Int) : c * u k * 2160 = wg u k * c * (6 * 6 * ((k : Int) + 2)) := by
  unfold wg
  rcases k4 hk with rfl | rfl | rfl | rfl
  · have : (60 : Int) / (((0 : Nat) : Int) + 2) = 30 := by decide
    rw [this]
    have : (6 * 6 * (((0 : Nat) : Int) + 2)) = 72 := by decide
    rw [this]
    grind
  · have : (60 : Int) / (((1 : Nat) : Int) + 2) = 20 := by decide
    rw [this]
    have : (6 * 6 * (((1 : Nat) : Int) + 2)) = 108 := by decide
    rw [this]
    grind
  · have : (60 : Int) / (((2 : Nat) : Int) + 2) = 15 := by decide
    rw [this]
    have : (6 * 6 * (((2 : Nat) : Int) + 2)) = 144 := by decide
    rw [this]
    grind
  · have : (60 : Int) / (((3 : Nat) : Int) + 2) = 12 := by decide
    rw [this]
    have : (6 * 6 * (((3 : Nat) : Int) + 2)) = 180 := by decide
    rw [this]
    grind
theorem wg_dvd {k : Nat} (hk : k < 4) : (6 * 6 * ((k : Int) + 2)) ∣ 2160 := by
  rcases k4 hk with rfl | rfl | rfl | rfl <;> decide
theorem bits12 {k : Int} (h0 : 0 ≤ k) (h : k < 4096) : Bits 600 k := by
  have : Bits 12 k := by
    unfold Bits
    have e : (2 : Nat) ^ 12 = 4096 := by decide
    omega
  exact this.up (by decide)
/-- one more weighted square, as the program has it -/
theorem Fo.step {K : Frag} {H : Hp} {x : Addr} {n i : Nat} {u : Nat → Int} {C : Ex → Int} {B S : Nat} (h : Fo K H x n (fun e => C e * u i) (6 * 6 * ((i : Int) + 2)) B S) (hi : i < 4) (u1 : 1 ≤ u i) (u7 : u i ≤ 7) (hC : ∀ e, Bits 656 (C e)) : Fo K H x n (fun e => wg u i * C e) 2160 664 S :=
  h.cast (by decide) (bits12 (by decide) (by decide)) (fun e => wg_eq hi (C e)) fun e => ((wg_le u1 u7 hi).mul (hC e)).up (by decide)
theorem La.step {H : Hp} {x : Addr} {n i : Nat} {c : Int} {u : Nat → Int} {C : Ex → Int} {B S : Nat} (h : La H x n c (fun e => C e * u i) (6 * 6 * ((i : Int) + 2)) B S) (hi : i < 4) : La H x n c (fun e => wg u i * C e) 2160 B S :=
  h.cast (by decide) (wg_dvd hi) (by decide) (fun e => wg_eq hi (C e))
theorem FoL.monoN {K : Frag} {H H' : Hp} {ys : List V} {n : Nat} {Fs : Nat → Ex → Int} (s : Same H H') (h : FoL K H ys n Fs) : FoL K H' ys n Fs := h.mono s
theorem FoL.snoc {K : Frag} {H : Hp} {ys : List V} {n i : Nat} {Fs : Nat → Ex → Int} {f : Addr} (h : FoL K H ys n Fs) (hl : ys.length = i) (hf : Fo K H f n (Fs i) 6 200 16) : FoL K H (ys ++ [.ref f]) n Fs := fun k x e => by
  by_cases c : k < ys.length
  · rw [List.getElem?_append_left c] at e
    exact h k x e
  · rw [List.getElem?_append_right (by omega)] at e
    by_cases d : k - ys.length = 0
    · have ki : k = i := by omega
      rw [d] at e
      cases Option.some.inj e
      rw [ki]
      exact ⟨f, rfl, hf⟩
    · rw [List.getElem?_eq_none (by simp; omega)] at e
      cases e
theorem LaL.rep {H : Hp} {xs : List V} {n : Nat} {Fs : Nat → Ex → Int} (h : LaL H xs n Fs) : ∃ L : Nat → List (Ex × Int), ∀ k, k < xs.length → Rp n (L k) (Fs k) :=
  Classical.axiomOfChoice (r := fun k L => k < xs.length → Rp n L (Fs k)) fun k => by
    by_cases c : k < xs.length
    · obtain ⟨t, _, la⟩ := h k _ (List.getElem?_eq_getElem c)
      obtain ⟨L, r⟩ := la.rp
      exact ⟨L, fun _ => r⟩
    · exact ⟨[], fun q => absurd q c⟩
theorem rep_dg {n m : Nat} {Fs : Nat → Ex → Int} {L : Nat → List (Ex × Int)} (h : ∀ k, k < m → Rp n (L k) (Fs k)) : ∃ dd : Nat → Int, ∀ k, k < m → Dg (Fs k) (dd k) :=
  Classical.axiomOfChoice (r := fun k d => k < m → Dg (Fs k) d) fun k => by
    by_cases c : k < m
    · obtain ⟨d, g⟩ := Rp.dg (h k c)
      exact ⟨d, fun _ => g⟩
    · exact ⟨0, fun q => absurd q c⟩
theorem Fo.monoN {K : Frag} {H H' : Hp} {f : Addr} {n : Nat} {F : Ex → Int} {N : Int} {B S : Nat} (s : SameN H H') (h : Fo K H f n F N B S) : Fo K H' f n F N B S := by
  obtain ⟨p, xs, R, ⟨dx, h1⟩, h2, h3, h4, h⟩ := h
  exact ⟨p, xs, R, ⟨dx, s _ _ h1 (fun _ z => nomatch z)⟩, s _ _ h2 (fun _ z => nomatch z), h3.monoD (SameD.ofN s), h4.monoD (SameD.ofN s), h⟩
def itFm (K : Frag) (n : Nat) (Fs : Nat → Ex → Int) : Hp → V → Nat → Prop := fun H x k => ∃ f, x = .ref f ∧ Fo K H f n (Fs k) 6 200 16
theorem itFm_mono {K : Frag} {n : Nat} {Fs : Nat → Ex → Int} : Mono (itFm K n Fs) := fun H H' x k s h => by
  obtain ⟨f, e1, e2⟩ := h
  exact ⟨f, e1, e2.monoN s⟩
theorem z_orC {u : R2} {a b : Int} {H : Hp} {Q : VK} (q : Q (.int (a + b)) H) : rOr zCat u (.int a) (.int b) H Q := .inl (z_catI q)
theorem z_orL {u : R2} {a b : Int} {H : Hp} {Q : VK} (h1 : -18446744073709551616 < a) (h2 : a < 18446744073709551616) (q : Q (.int (a * b)) H) : rOr zRep u (.int a) (.int b) H Q := .inl (z_repL h1 h2 q)
local macro_rules | `(tactic| walk_at "z") => `(tactic| with_reducible refine z_fldS ?_)
local macro_rules | `(tactic| walk_at "z") => `(tactic| ((with_reducible refine' z_fdt ?zc1 ?zc2 ?zl2 ?_); (case zc1 => exact Lw.cl_Ratio (by assumption)); (case zc2 => exact Lw.na_Ratio_top (by assumption)); (case zl2 => walk_at "up")))
local macro_rules | `(tactic| walk_at "z") => `(tactic| ((with_reducible refine' z_fdb ?zc1 ?zc2 ?zl2 ?_); (case zc1 => exact Lw.cl_Ratio (by assumption)); (case zc2 => exact Lw.na_Ratio_bottom (by assumption)); (case zl2 => walk_at "up")))
local macro_rules | `(tactic| walk_at "z") => `(tactic| ((with_reducible refine' z_isTup ?zl1 ?_); (case zl1 => walk_at "up")))
local macro_rules | `(tactic| walk_at "z") => `(tactic| ((with_reducible refine' z_isR ?zl1 ?zl2 ?zl3 ?_); (case zl1 => exact Lw.in_Ratio (by assumption)); (case zl2 => exact Lw.kt_Ratio_Ratio (by assumption)); (case zl3 => walk_at "up")))
local macro_rules | `(tactic| walk_at "z") => `(tactic| ((with_reducible refine' z_isFm ?zl1 ?zl2 ?zl3 ?_); (case zl1 => exact Lw.in_Form (by assumption)); (case zl2 => exact Lw.kt_Form_Form (by assumption)); (case zl3 => walk_at "up")))
local macro_rules | `(tactic| walk_at "z") => `(tactic| with_reducible refine u_who ?_)
local macro_rules | `(tactic| walk_at "z") => `(tactic| with_reducible refine u_gcd ?_)
local macro_rules | `(tactic| walk_at "z") => `(tactic| ((with_reducible refine' u_mtFm ?zl1 ?_); (case zl1 => walk_at "up")))
local macro_rules | `(tactic| walk_at "z") => `(tactic| with_reducible refine z_orC ?_)
local macro_rules | `(tactic| walk_at "z") => `(tactic| ((with_reducible refine' z_orL ?zl1 ?zl2 ?_); (case zl1 => omega); (case zl2 => omega)))
local macro_rules | `(tactic| walk_at "up") => `(tactic| first
  | assumption
  | (refine' IsR.mono (by assumption) ?zup; case zup => walk_at "up")
  | (refine' IsE.mono (by assumption) ?zup; case zup => walk_at "up")
  | (refine' Same.at (by assumption) ?zup; case zup => walk_at "up")
  | (refine' SqL.of ?zup; case zup => walk_at "up")
  | (refine' L2.Same.seq (by assumption) ?zup; case zup => walk_at "up"))
local macro_rules | `(tactic| walk_at "z") => `(tactic| first
  | ((with_reducible refine' z_var ?zvh ?_); (case zvh => exact rfl))
  | with_reducible refine z_c ?_
  | with_reducible refine z_cons ?_
  | with_reducible refine z_nil ?_
  | with_reducible refine z_op ?_
  | with_reducible refine z_nx ?_
  | with_reducible refine z_seq ?_
  | with_reducible refine z_asg ?_
  | with_reducible refine z_asgG ?_
  | with_reducible refine z_call ?_
  | with_reducible refine z_sq0 ?_
  | with_reducible refine z_sq1 ?_
  | with_reducible refine z_ifS ?_
  | with_reducible refine z_test ?_
  | with_reducible refine z_tb ?_
  | with_reducible refine z_bl ?_
  | with_reducible refine z_blI ?_
  | with_reducible refine z_ret ?_
  | with_reducible refine z_rt ?_
  | with_reducible refine z_T ?_
  | with_reducible refine z_F ?_
  | with_reducible refine z_add ?_
  | with_reducible refine z_sub ?_
  | with_reducible refine z_neg ?_
  | with_reducible refine z_un ?_
  | with_reducible refine z_eqI ?_
  | with_reducible refine z_neI ?_
  | with_reducible refine z_lt ?_
  | with_reducible refine z_le ?_
  | with_reducible refine z_gt ?_
  | with_reducible refine z_ge ?_
  | with_reducible refine z_not ?_
  | with_reducible refine z_and ?_
  | with_reducible refine z_or ?_
  | with_reducible refine z_andV ?_
  | with_reducible refine z_orV ?_
  | with_reducible refine z_notV ?_
  | with_reducible refine z_if ?_
  | with_reducible refine z_cb ?_
  | with_reducible refine z_int1 ?_
  | with_reducible refine z_intb ?_
  | with_reducible refine z_abs ?_
  | with_reducible refine z_gcd ?_
  | with_reducible refine z_isi_ii ?_
  | with_reducible refine z_isi_ib ?_
  | with_reducible refine z_next ?_
  | with_reducible refine z_drop ?_
  | with_reducible refine z_par ?_
  | with_reducible refine z_par2 ?_
  | with_reducible refine z_tupN ?_
  | with_reducible refine z_lstN ?_
  | ((with_reducible refine' z_nt ?zl1 ?_); (case zl1 => exact Nat.le_of_ble_eq_true rfl); intro p H' hp hs he)
  | ((with_reducible refine' z_gtup ?zl1 ?zl2 ?_); (case zl1 => walk_at "up"); (case zl2 => exact rfl))
  | with_reducible refine z_bk ?_
  | with_reducible refine z_ct ?_
  | with_reducible refine z_break ?_
  | with_reducible refine z_cont ?_
  | with_reducible refine z_retN ?_
  | with_reducible refine z_nn ?_
  | with_reducible refine z_mk ?_
  | with_reducible refine z_gn ?_
  | with_reducible refine z_gcons ?_
  | with_reducible refine z_gnil ?_
  | with_reducible refine z_mt ?_
  | with_reducible refine z_mko ?_
  | with_reducible refine z_for2 ?_
  | with_reducible refine z_ownI ?_
  | ((with_reducible refine' z_lenL ?zl1 ?_); (case zl1 => walk_at "up"))
  | ((with_reducible refine' z_ixT ?zl1 ?zl2 ?_); (case zl1 => walk_at "up"); (case zl2 => exact rfl))
  | ((with_reducible refine' z_mulL ?zl1 ?zl2 ?_); (case zl1 => omega); (case zl2 => omega))
  | ((with_reducible refine' z_mulR ?zl1 ?zl2 ?_); (case zl1 => omega); (case zl2 => omega))
  | ((with_reducible refine' z_divS ?zl1 ?zl2 ?_); (case zl1 => omega); (case zl2 => omega))
  | ((with_reducible refine' z_mulW ?zl1 ?zl2 ?zl3 ?zl4 ?_); (case zl1 => omega); (case zl2 => omega); (case zl3 => omega); (case zl4 => omega))
  | ((with_reducible refine' z_divW ?zl1 ?zl2 ?_); (case zl1 => omega); (case zl2 => omega)))
local macro_rules | `(tactic| walk_at "zz") => `(tactic| repeat (walk_at "z"))
local macro_rules | `(tactic| walk_at "z") => `(tactic| with_reducible refine z_lstN ?_)
local macro_rules | `(tactic| walk_at "z") => `(tactic| with_reducible refine z_p6 ?_)
local macro_rules | `(tactic| walk_at "z") => `(tactic| with_reducible refine z_p12 ?_)
local macro_rules | `(tactic| walk_at "z") => `(tactic| with_reducible refine z_p13 ?_)
local macro_rules | `(tactic| walk_at "z") => `(tactic| with_reducible refine z_calln ?_)
local macro_rules | `(tactic| walk_at "z") => `(tactic| with_reducible refine z_xfS ?_)
local macro_rules | `(tactic| walk_at "z") => `(tactic| with_reducible refine z_lcS ?_)
local macro_rules | `(tactic| walk_at "z") => `(tactic| with_reducible refine z_lcRS ?_)
local macro_rules | `(tactic| walk_at "z") => `(tactic| with_reducible refine z_lcZS ?_)
local macro_rules | `(tactic| walk_at "z") => `(tactic| with_reducible refine z_foS ?_)
local macro_rules | `(tactic| walk_at "z") => `(tactic| with_reducible refine z_for1 ?_)
local macro_rules | `(tactic| walk_at "z") => `(tactic| with_reducible refine z_tsl ?_)
local macro_rules | `(tactic| walk_at "z") => `(tactic| with_reducible refine z_np ?_)
local macro_rules | `(tactic| walk_at "z") => `(tactic| with_reducible refine z_pt ?_)
local macro_rules | `(tactic| walk_at "z") => `(tactic| with_reducible refine z_pti ?_)
local macro_rules | `(tactic| walk_at "z") => `(tactic| with_reducible refine z_catI ?_)
local macro_rules | `(tactic| walk_at "z") => `(tactic| with_reducible refine z_isNI ?_)
local macro_rules | `(tactic| walk_at "z") => `(tactic| with_reducible refine z_isNN ?_)
local macro_rules | `(tactic| walk_at "z") => `(tactic| with_reducible refine z_notNI ?_)
local macro_rules | `(tactic| walk_at "z") => `(tactic| with_reducible refine z_notNN ?_)
local macro_rules | `(tactic| walk_at "z") => `(tactic| with_reducible refine z_gsub ?_)
local macro_rules | `(tactic| walk_at "z") => `(tactic| with_reducible refine z_isNb ?_)
local macro_rules | `(tactic| walk_at "z") => `(tactic| with_reducible refine z_notNb ?_)
local macro_rules | `(tactic| walk_at "z") => `(tactic| ((with_reducible refine' z_nlR ?zl1 ?_); (case zl1 => exact Nat.le_of_ble_eq_true rfl); intro p H' hp hs he))
local macro_rules | `(tactic| walk_at "z") => `(tactic| ((with_reducible refine' z_repR ?zl1 ?zl2 ?_); (case zl1 => omega); (case zl2 => omega)))
local macro_rules | `(tactic| walk_at "z") => `(tactic| ((with_reducible refine' z_repL ?zl1 ?zl2 ?_); (case zl1 => omega); (case zl2 => omega)))
local macro_rules | `(tactic| walk_at "z") => `(tactic| ((with_reducible refine' z_lenLst ?zl1 ?_); (case zl1 => walk_at "up")))
local macro_rules | `(tactic| walk_at "z") => `(tactic| ((with_reducible refine' z_cat ?zl1 ?zl2 ?zl3 ?_); (case zl1 => walk_at "up"); (case zl2 => walk_at "up"); (case zl3 => (simp only [List.length_map, List.length_cons, List.length_nil, List.length_append, List.length_replicate]; omega)); intro p H' hp hs he))
local macro_rules | `(tactic| walk_at "z") => `(tactic| with_reducible refine z_sfl ?_)
local macro_rules | `(tactic| walk_at "z") => `(tactic| with_reducible refine z_lcES ?_)
local macro_rules | `(tactic| walk_at "z") => `(tactic| with_reducible refine z_lcMS ?_)
local macro_rules | `(tactic| walk_at "z") => `(tactic| with_reducible refine z_foES ?_)
local macro_rules | `(tactic| walk_at "z") => `(tactic| with_reducible refine z_fo3S ?_)
local macro_rules | `(tactic| walk_at "z") => `(tactic| with_reducible refine z_sta ?_)
local macro_rules | `(tactic| walk_at "z") => `(tactic| with_reducible refine z_sta1 ?_)
local macro_rules | `(tactic| walk_at "z") => `(tactic| with_reducible refine z_lcTS ?_)
local macro_rules | `(tactic| walk_at "z") => `(tactic| with_reducible refine z_foTS ?_)
local macro_rules | `(tactic| walk_at "z") => `(tactic| with_reducible refine z_revTS ?_)
local macro_rules | `(tactic| walk_at "z") => `(tactic| with_reducible refine z_max2 ?_)
local macro_rules | `(tactic| walk_at "z") => `(tactic| ((with_reducible refine' z_fldt ?zc1 ?zc2 ?zl1 ?zl2 ?_); (case zc1 => exact Lw.cl_Ratio (by assumption)); (case zc2 => exact Lw.na_Ratio_top (by assumption)); (case zl1 => exact rfl); (case zl2 => walk_at "up")))
local macro_rules | `(tactic| walk_at "z") => `(tactic| ((with_reducible refine' z_fldb ?zc1 ?zc2 ?zl1 ?zl2 ?_); (case zc1 => exact Lw.cl_Ratio (by assumption)); (case zc2 => exact Lw.na_Ratio_bottom (by assumption)); (case zl1 => exact rfl); (case zl2 => walk_at "up")))
local macro_rules | `(tactic| walk_at "z") => `(tactic| ((with_reducible refine' u_mtF ?zl1 ?_); (case zl1 => walk_at "up")))
local macro_rules | `(tactic| walk_at "z") => `(tactic| ((with_reducible refine' z_ixLst ?zl1 ?zl2 ?_); (case zl1 => walk_at "up"); (case zl2 => exact rfl)))
local macro_rules | `(tactic| walk_at "z") => `(tactic| with_reducible refine z_yes ?_)
local macro_rules | `(tactic| walk_at "z") => `(tactic| with_reducible refine z_if1 ?_)
local macro_rules | `(tactic| walk_at "z") => `(tactic| with_reducible refine z_dg ?_)
local macro_rules | `(tactic| walk_at "z") => `(tactic| with_reducible refine z_di ?_)
local macro_rules | `(tactic| walk_at "z") => `(tactic| with_reducible refine z_dp ?_)
local macro_rules | `(tactic| walk_at "z") => `(tactic| with_reducible refine z_foKS ?_)
local macro_rules | `(tactic| walk_at "z") => `(tactic| with_reducible refine z_foPS ?_)
local macro_rules | `(tactic| walk_at "z") => `(tactic| with_reducible refine z_foTS ?_)
local macro_rules | `(tactic| walk_at "z") => `(tactic| with_reducible refine z_lcKS ?_)
local macro_rules | `(tactic| walk_at "z") => `(tactic| with_reducible refine z_lcTS ?_)
local macro_rules | `(tactic| walk_at "z") => `(tactic| with_reducible refine z_dcTS ?_)
local macro_rules | `(tactic| walk_at "z") => `(tactic| with_reducible refine z_dcPS ?_)
local macro_rules | `(tactic| walk_at "z") => `(tactic| with_reducible refine z_fixV ?_)
local macro_rules | `(tactic| walk_at "z") => `(tactic| with_reducible refine z_mkk ?_)
local macro_rules | `(tactic| walk_at "z") => `(tactic| with_reducible refine z_sta ?_)
local macro_rules | `(tactic| walk_at "z") => `(tactic| with_reducible refine z_sta1 ?_)
local macro_rules | `(tactic| walk_at "z") => `(tactic| with_reducible refine z_ckw ?_)
local macro_rules | `(tactic| walk_at "z") => `(tactic| with_reducible refine z_cmpD ?_)
local macro_rules | `(tactic| walk_at "z") => `(tactic| with_reducible refine z_pk1 ?_)
local macro_rules | `(tactic| walk_at "z") => `(tactic| with_reducible refine z_tBD ?_)
local macro_rules | `(tactic| walk_at "z") => `(tactic| ((with_reducible refine' z_fl ?zc1 ?zc2 ?zl1 ?zl2 ?_); (case zc1 => exact Lw.cl_Form (by assumption)); (case zc2 => exact Lw.na_Form_letters (by assumption)); (case zl1 => exact rfl); (case zl2 => walk_at "up")))
local macro_rules | `(tactic| walk_at "z") => `(tactic| ((with_reducible refine' z_ft ?zc1 ?zc2 ?zl1 ?zl2 ?_); (case zc1 => exact Lw.cl_Form (by assumption)); (case zc2 => exact Lw.na_Form_terms (by assumption)); (case zl1 => exact rfl); (case zl2 => walk_at "up")))
local macro_rules | `(tactic| walk_at "z") => `(tactic| ((with_reducible refine' z_fd ?zc1 ?zc2 ?zl1 ?zl2 ?_); (case zc1 => exact Lw.cl_Form (by assumption)); (case zc2 => exact Lw.na_Form_degree (by assumption)); (case zl1 => exact rfl); (case zl2 => walk_at "up")))
theorem sameFK {H H1 H2 : Hp} (h : Same H1 H2) (e : Same H H1) : Same H H2 := e.trans h
local macro_rules | `(tactic| walk_at "sm") => `(tactic| first
  | assumption
  | exact fun _ _ h => h
  | (refine' sameFK (by assumption) ?zsm; case zsm => walk_at "sm"))
local macro_rules | `(tactic| walk_at "up") => `(tactic| first
  | assumption
  | (with_reducible refine' IsR.mono (by assumption) ?zup; case zup => walk_at "up")
  | (with_reducible refine' Fr.mono (by assumption) ?zup; case zup => walk_at "up")
  | (with_reducible refine' IsFm.mono (by assumption) ?zup; case zup => walk_at "up")
  | (with_reducible refine' Frz.mono (by assumption) ?zup; case zup => walk_at "up")
  | (with_reducible refine' Fo.mono (by assumption) ?zup; case zup => walk_at "up")
  | (with_reducible refine' La.mono (by assumption) ?zup; case zup => walk_at "up")
  | (with_reducible refine' Ta.mono (by assumption) ?zup; case zup => walk_at "up")
  | (with_reducible refine' PrL.mono (by assumption) ?zup; case zup => walk_at "up")
  | (with_reducible refine' EnA.mono (by assumption) ?zup; case zup => walk_at "up")
  | (with_reducible refine' Srt.mono (by assumption) ?zup; case zup => walk_at "up")
  | (with_reducible refine' Same.at (by assumption) ?zup; case zup => walk_at "up")
  | fail)
section
variable {P : Program} {w : World} {K : Frag} {mg : Str → Option Value} {base : Heap}
theorem ok_law (L : Lw K mg) {fd : FuncData} (F : FunD K "law" "law" (defArgs s_law) (defBody s_law) (defScope s_law) (df_law.dvs K) (df_law.kws K) (He.fAd K ("law", none)) fd) : FnOk P w K mg base (L2N.CX P w) 11 (He.fAd K ("law", none)) fd (["script"] : List Str) (sp1 (fs_law K)) := by
  refine FunD.ok F sc_law len1 (fun cdv A outer s H vs Q E hr h => ?_)
  obtain ⟨a, rfl, h⟩ := h
  refine ⟨_, (pss_cons (ps_set (i := 1) sc_law.nd rfl (by first | exact Or.inl rfl | exact Or.inr rfl) (pe_callTy (callK rList1 (K := K) rfl o_list1) (by rfl) L.f_list (by decide +kernel) (pa_cons (pe_slice (slK rSlL (K := K) rfl sl_list) (pv 0) po_none (po_some pe_int)) pa_nil)))
    (pss_cons (ps_set (i := 2) sc_law.nd rfl (by first | exact Or.inl rfl | exact Or.inr rfl) (pe_c (c_law_draw (K := K) L) hr (by decide) (L2N.takes_of rfl rfl rfl rfl) (pa_cons (pv 1) (pa_cons pe_int (pa_cons pe_int pa_nil)))))
    (pss_cons (ps_set (i := 3) sc_law.nd rfl (by first | exact Or.inl rfl | exact Or.inr rfl) (pe_op o_mod (pe_callTy o_int1 (by rfl) L.f_int (by decide +kernel) (pa_cons (pe_op (op_or2 o_cat (op_own (by rfl) L.sf_Form (c_FormD_addD (K := K) L) hr (by decide) passF)) (pe_op (op_or2 o_rep (op_own (by rfl) L.sf_Form (c_FormD_mulD (K := K) L) hr (by decide) passF)) pe_int (pe_ix (ix_seqK (K := K) rfl) (pv 2) pe_int (fun _ _ => rfl))) (pe_ix (ix_seqK (K := K) rfl) (pv 2) pe_int (fun _ _ => rfl))) pa_nil)) pe_int))
    (pss_cons (ps_set (i := 2) sc_law.nd rfl (by first | exact Or.inl rfl | exact Or.inr rfl) (pe_c (c_law_draw (K := K) L) hr (by decide) (L2N.takes_of rfl rfl rfl rfl) (pa_cons (pv 1) (pa_cons pe_int (pa_cons pe_int pa_nil)))))
    (pss_cons (ps_set (i := 4) sc_law.nd rfl (by first | exact Or.inl rfl | exact Or.inr rfl) (pe_op (op_or2 o_cat (op_own (by rfl) L.sf_Form (c_FormD_addD (K := K) L) hr (by decide) passF)) pe_int (pe_op o_mod (pe_callTy o_int1 (by rfl) L.f_int (by decide +kernel) (pa_cons (pe_op (op_or2 o_cat (op_own (by rfl) L.sf_Form (c_FormD_addD (K := K) L) hr (by decide) passF)) (pe_ix (ix_seqK (K := K) rfl) (pv 2) pe_int (fun _ _ => rfl)) pe_int) pa_nil)) pe_int)))
    (pss_cons (ps_set (i := 5) sc_law.nd rfl (by first | exact Or.inl rfl | exact Or.inr rfl) (pe_c (c_law_forms (K := K) L) hr (by decide) (L2N.takes_of rfl rfl rfl rfl) (pa_cons (pv 1) (pa_cons (pe_op o_mod (pe_callTy o_int1 (by rfl) L.f_int (by decide +kernel) (pa_cons (pe_op (op_or2 o_cat (op_own (by rfl) L.sf_Form (c_FormD_addD (K := K) L) hr (by decide) passF)) (pe_ix (ix_seqK (K := K) rfl) (pv 2) pe_int (fun _ _ => rfl)) pe_int) pa_nil)) pe_int) (pa_cons (pv 4) (pa_cons (pe_cmpR op_eq (pv 3) pe_int (nomark _)) pa_nil))))))
    (pss_cons (ps_set (i := 6) sc_law.nd rfl (by first | exact Or.inl rfl | exact Or.inr rfl) (pe_callB (callK rMax (K := K) rfl (cr_max rfl)) (by rfl) L.f_max (by decide +kernel) (pa_cons (pe_op (op_or2 o_cat (op_own (by rfl) L.sf_Form (c_FormD_addD (K := K) L) hr (by decide) passF)) (pe_lst (pa_cons (pe_un o_neg pe_int) pa_nil)) (pe_lc (own := [("a", 7)]) (g := (gName 7)) (tt := tYes) rfl sc_law.nd (pi_listK (K := K) rfl (pv 5)) (blkOk_by (N := ["script", "cells", "row", "mode", "n", "own", "high", "a", "forms", "total", "due", "tops", "k", "top", "f", "part"]) (sc := defScope s_law) (by decide +kernel)) (fun _ _ _ _ _ => pg_name (i := 7) sc_law.nd rfl (Or.inl rfl)) (fun _ _ _ _ _ => pts_nil) (fun _ _ _ _ _ => (pe_c (c_law_degree (K := K) L) hr (by decide) takesF (pa_cons (pv 7) pa_nil))))) pa_nil)))
    (pss_cons (ps_setLc (i := 8) (own := [("a", 7)]) (g := (gName 7)) (tt := tYes) rfl sc_law.nd rfl rfl (sw_true rfl rfl rfl (by decide +kernel)) (pi_listK (K := K) rfl (pv 5)) (blkOk_by (N := ["script", "cells", "row", "mode", "n", "own", "high", "a", "forms", "total", "due", "tops", "k", "top", "f", "part"]) (sc := defScope s_law) (by decide +kernel)) (fun _ _ _ _ _ => pg_name (i := 7) sc_law.nd rfl (Or.inl rfl)) (fun _ _ _ _ _ => pts_nil) (fun _ _ _ _ _ => (pe_c (c_law_made (K := K) L) hr (by decide) takesF (pa_cons (pv 4) (pa_cons (pv 7) pa_nil)))))
    (pss_cons (ps_set (i := 9) sc_law.nd rfl (by first | exact Or.inl rfl | exact Or.inr rfl) (pe_mk (c1_FormD_initD (K := K) L) hr (by decide) (L2N.takes_of rfl rfl rfl rfl) (pa_cons (pv 4) (pa_cons (pe_lst pa_nil) pa_nil))))
    (pss_cons (ps_set (i := 10) sc_law.nd rfl (by first | exact Or.inl rfl | exact Or.inr rfl) (pe_tup (pa_cons pe_int (pa_cons (pe_fixV pe_dnewT) pa_nil))))
    (pss_cons (ps_set (i := 11) sc_law.nd rfl (by first | exact Or.inl rfl | exact Or.inr rfl) (pe_tup (pa_cons pe_int (pa_cons (pe_fixV pe_dnewT) pa_nil))))
    (pss_cons (ps_for (passes_of rfl) rfl (pi_range1 (by rfl) L.f_range (pa_cons (pe_callB (callK rLen1 (K := K) rfl o_len) (by rfl) L.f_len (by decide +kernel) (pa_cons (pv 5) pa_nil)) pa_nil)) (pg_name (i := 12) sc_law.nd rfl (by first | exact Or.inl rfl | exact Or.inr rfl)) (pss_cons (ps_set (i := 13) sc_law.nd rfl (by first | exact Or.inl rfl | exact Or.inr rfl) (pe_op (op_or2 o_cat (op_own (by rfl) L.sf_Form (c_FormD_addD (K := K) L) hr (by decide) passF)) pe_int (pe_op o_mod (pe_callTy o_int1 (by rfl) L.f_int (by decide +kernel) (pa_cons (pe_op (op_or2 o_cat (op_own (by rfl) L.sf_Form (c_FormD_addD (K := K) L) hr (by decide) passF)) (pe_ix (ix_seqK (K := K) rfl) (pv 2) (pe_op (op_or2 o_cat (op_own (by rfl) L.sf_Form (c_FormD_addD (K := K) L) hr (by decide) passF)) pe_int (pv 12)) (fun _ _ => rfl)) (pv 12)) pa_nil)) pe_int)))
    (pss_cons (ps_set (i := 14) sc_law.nd rfl (by first | exact Or.inl rfl | exact Or.inr rfl) (pe_ix (ix_seqK (K := K) rfl) (pv 8) (pv 12) (fun _ _ => rfl)))
    (pss_cons (ps_set (i := 7) sc_law.nd rfl (by first | exact Or.inl rfl | exact Or.inr rfl) (pe_ix (ix_seqK (K := K) rfl) (pv 5) (pv 12) (fun _ _ => rfl)))
    (pss_cons (ps_set (i := 9) sc_law.nd rfl (by first | exact Or.inl rfl | exact Or.inr rfl) (pe_op (op_or2 o_cat (op_own (by rfl) L.sf_Form (c_FormD_addD (K := K) L) hr (by decide) passF)) (pv 9) (pe_mt (c_Form_scaled (K := K) L) hr (by decide) (L2N.takes_of rfl rfl rfl rfl) (pe_op (op_or2 o_rep (op_own (by rfl) L.sf_Form (c_FormD_mulD (K := K) L) hr (by decide) passF)) (pv 14) (pv 14)) (pa_cons (pe_mk (c_RatioD_initD (K := K) L) hr (by decide) (L2N.takes_of rfl rfl rfl rfl) (pa_cons (pv 13) (pa_cons (pe_op (op_or2 o_cat (op_own (by rfl) L.sf_Form (c_FormD_addD (K := K) L) hr (by decide) passF)) (pv 12) pe_int) pa_nil))) pa_nil))))
    (pss_cons (ps_set (i := 10) sc_law.nd rfl (by first | exact Or.inl rfl | exact Or.inr rfl) (pe_c (c_law_sum (K := K) L) hr (by decide) (L2N.takes_of rfl rfl rfl rfl) (pa_cons (pv 10) (pa_cons (pe_c (c_law_scale (K := K) L) hr (by decide) (L2N.takes_of rfl rfl rfl rfl) (pa_cons (pe_c (c_law_product (K := K) L) hr (by decide) (L2N.takes_of rfl rfl rfl rfl) (pa_cons (pv 7) (pa_cons (pv 7) pa_nil))) (pa_cons (pv 13) (pa_cons (pe_op (op_or2 o_cat (op_own (by rfl) L.sf_Form (c_FormD_addD (K := K) L) hr (by decide) passF)) (pv 12) pe_int) pa_nil)))) pa_nil))))
    (pss_one (ps_if (pt_cmpR op_eq (pe_c (c_law_degree (K := K) L) hr (by decide) (L2N.takes_of rfl rfl rfl rfl) (pa_cons (pv 7) pa_nil)) (pv 6) (nomark _)) (pss_cons (ps_set (i := 15) sc_law.nd rfl (by first | exact Or.inl rfl | exact Or.inr rfl) (pe_c (c_law_top_of (K := K) L) hr (by decide) (L2N.takes_of rfl rfl rfl rfl) (pa_cons (pv 7) pa_nil)))
    (pss_one (ps_set (i := 11) sc_law.nd rfl (by first | exact Or.inl rfl | exact Or.inr rfl) (pe_c (c_law_sum (K := K) L) hr (by decide) (L2N.takes_of rfl rfl rfl rfl) (pa_cons (pv 11) (pa_cons (pe_c (c_law_scale (K := K) L) hr (by decide) (L2N.takes_of rfl rfl rfl rfl) (pa_cons (pe_c (c_law_product (K := K) L) hr (by decide) (L2N.takes_of rfl rfl rfl rfl) (pa_cons (pv 15) (pa_cons (pv 15) pa_nil))) (pa_cons (pv 13) (pa_cons (pe_op (op_or2 o_cat (op_own (by rfl) L.sf_Form (c_FormD_addD (K := K) L) hr (by decide) passF)) (pv 12) pe_int) pa_nil)))) pa_nil)))))) pss_nil))))))))
    (pss_cons (ps_if (pt_not (pt_val (pe_c (c_law_is_form (K := K) L) hr (by decide) (L2N.takes_of rfl rfl rfl rfl) (pa_cons (pv 9) (pa_cons (pv 4) (pa_cons (pv 10) pa_nil)))))) (pss_one (ps_ret pe_bl)) pss_nil)
    (pss_cons (ps_if (pt_not (pt_val (pe_c (c_law_is_form (K := K) L) hr (by decide) (L2N.takes_of rfl rfl rfl rfl) (pa_cons (pe_mt0 (c_Form_top_part (K := K) L) hr (by decide) (L2N.takes_of rfl rfl rfl rfl) (pv 9)) (pa_cons (pv 4) (pa_cons (pv 11) pa_nil)))))) (pss_one (ps_ret pe_bl)) pss_nil)
    (pss_one (ps_ret (pe_c (c_law_tops_hold (K := K) L) hr (by decide) (L2N.takes_of rfl rfl rfl rfl) (pa_cons (pv 4) (pa_cons (pv 9) (pa_cons (pv 8) (pa_cons (pv 5) (pa_cons (pv 11) pa_nil)))))))))))))))))))))), ?_⟩
  rw [show L2.start (["script", "cells", "row", "mode", "n", "own", "high", "a", "forms", "total", "due", "tops", "k", "top", "f", "part"] : List Str) [a] = [some a, none, none, none, none, none, none, none, none, none, none, none, none, none, none, none] from rfl]
  obtain ⟨p, ns, rfl, hS, hl, q⟩ := h
  try dsimp only [List.set]
  walk_at "zz"
  refine ⟨p, _, rfl, hS, fun c hc => ?_⟩
  rw [cut63 hl]
  have es : (upd H c (.lst (ns.map V.int))) c = some (.lst (ns.map V.int)) := upd_same
  generalize upd H c (.lst (ns.map V.int)) = Hc at *
  try dsimp only [List.set]
  walk_at "zz"
  refine z_listL (SqL.of es) (fun c2 H0 hc2 s0 e0 => ?_)
  have hp : IsPool H0 c2 := ⟨ns, e0⟩
  try dsimp only [List.set]
  walk_at "zz"
  refine u_draw (m := 2) hp (by decide) (by decide) (fun D1 H1 ds1 s1 h1 l1 g1 => ?_)
  try dsimp only [List.set]
  walk_at "zz"
  refine z_ixC h1 (by decide) (by omega) ?_
  try dsimp only [List.set]
  walk_at "zz"
  refine z_ixC h1 (by decide) (by omega) ?_
  try dsimp only [List.set]
  walk_at "zz"
  refine z_mod (by decide) ?_
  generalize (10 * ds1.getD (1 : Int).toNat 0 + ds1.getD (0 : Int).toNat 0) % 8 = mode
  try dsimp only [List.set]
  walk_at "zz"
  refine u_draw (m := 6) (hp.mono s1) (by decide) (by decide) (fun D2 H2 ds2 s2 h2 l2 g2 => ?_)
  have hp2 := hp.mono (Same.trans s1 s2)
  try dsimp only [List.set]
  walk_at "zz"
  refine z_ixC h2 (by decide) (by omega) ?_
  try dsimp only [List.set]
  walk_at "zz"
  refine z_mod (by decide) ?_
  obtain ⟨n, hn, n1, n6⟩ : ∃ n : Nat, 1 + (ds2.getD (0 : Int).toNat 0 + 2) % 6 = (n : Int) ∧ 1 ≤ n ∧ n ≤ 6 := ⟨(1 + (ds2.getD (0 : Int).toNat 0 + 2) % 6).toNat, by omega, by omega, by omega⟩
  try dsimp only [List.set]
  walk_at "zz"
  rw [hn]
  refine z_ixC h2 (by decide) (by omega) ?_
  try dsimp only [List.set]
  walk_at "zz"
  refine z_mod (by decide) ?_
  obtain ⟨m, hm, m4⟩ : ∃ m : Nat, (ds2.getD (1 : Int).toNat 0 + 3) % 5 = (m : Int) ∧ m ≤ 4 := ⟨((ds2.getD (1 : Int).toNat 0 + 3) % 5).toNat, by omega, by omega⟩
  rw [hm]
  try dsimp only [List.set]
  walk_at "zz"
  refine u_lfo hp2 m4 n6 (fun w H3 xs Fs s3 hw lx hLL => ?_)
  obtain ⟨L, hR⟩ := hLL.rep
  rw [lx] at hR
  obtain ⟨dd, hdd⟩ := rep_dg hR
  try dsimp only [List.set]
  walk_at "zz"
  rename_i pm Hm hpm sm em
  refine z_lcVF (fun k => V.int (dd k)) (sm _ _ hw) (by omega) (fun k x H2 Nx hx s2 cc => ⟨rfl, ?_⟩) (fun D4 H4 hD4 s4 h4 => ?_)
  · obtain ⟨t, rfl, la⟩ := (hLL.mono (Same.trans sm s2)) k x hx
    have km : k < m := by
      rw [← lx]
      exact (List.getElem?_eq_some_iff.mp hx).1
    try dsimp only [List.set]
    walk_at "zz"
    refine u_deg la (by omega) (fun d H3 s3 g3 => ?_)
    rw [g3.uniq (hdd k km)]
    exact cc _ s3
  have em4 := s4 _ _ em
  rw [lx] at h4
  have h4' : H4 D4 = some (.lst (((List.range m).map dd).map V.int)) := by
    rw [h4, List.map_map]
    rfl
  refine .inl (z_cat em4 h4' (by rw [List.length_map, List.length_map, List.length_range]; show 1 + _ ≤ _; omega) (fun p5 H5 hp5 s5 h5 => ?_))
  have h5' : H5 p5 = some (.lst (((-1 : Int) :: (List.range m).map dd).map V.int)) := h5
  try dsimp only [List.set]
  walk_at "zz"
  refine z_maxL h5' (by simp) (fun h' m1 m2 => ?_)
  have hHg : Hg Fs m h' := hg_max hdd m1 m2
  have sA := Same.trans (Same.trans sm s4) s5
  have hw5 := sA _ _ hw
  have hLL5 := hLL.mono sA
  have h25 := sA _ _ (s3 _ _ h2)
  try dsimp only [List.set]
  walk_at "zz"
  refine z_lcVP (itFm K n Fs) itFm_mono hw5 (by omega) (fun k x H6 N6 hx s6 cc => ⟨rfl, ?_⟩) (fun D7 H7 hD7 s7 h7 => ?_)
  · obtain ⟨t, rfl, la⟩ := (hLL5.mono s6) k x hx
    have km : k < xs.length := (List.getElem?_eq_some_iff.mp hx).1
    try dsimp only [List.set]
    walk_at "zz"
    refine u_lmd (la.up (Int.le_refl _) (B' := 92) (S' := 16) (by omega) (by omega)) n1 n6 (by decide) (fun y H8 s8 f8 => ?_)
    exact cc _ _ s8 ⟨y, rfl, f8.up (by decide) (by decide)⟩
  obtain ⟨ys, hy7, ly, hFL⟩ := h7
  try dsimp only [List.set]
  walk_at "zz"
  rename_i e0 H8 he0 s8 e8
  refine u_mk0 (R := []) (F := tot (fun _ => 0) L 0) (N := 2160) ⟨e8, PrL.nil, nd_nil, (fun p m => nomatch m), (fun p m => nomatch m), n1, n6, by decide, by decide, fun e => rfl⟩ (fun x0 H9 s9 f9 => ?_)
  obtain ⟨u, hu⟩ : ∃ u : Nat → Int, ∀ k : Nat, u k = 1 + (ds2.getD (2 + (k : Int)).toNat 0 + (k : Int)) % 7 := ⟨_, fun _ => rfl⟩
  have u1 : ∀ k, 1 ≤ u k ∧ u k ≤ 7 := fun k => by rw [hu]; omega
  have fo9 : Fo K H9 x0 n (tot (wg u) L 0) 2160 700 0 := Fo.of f9 (by decide) (bits12 (by decide) (by decide)) fun e => Bits.zero
  try dsimp only [List.set]
  walk_at "zz"
  refine z_dnew (f := V.int) fun Da hDa => ?_
  refine ⟨Da, _, rfl, upd_same, True.intro, fun oo => ?_⟩
  have sE : Same H9 (upd (upd H9 Da (.dT (enT V.int []))) Da (.frz oo (.dT (enT V.int [])))) := Same.put (Same.new hDa) hDa
  have hE : Frz (upd (upd H9 Da (.dT (enT V.int []))) Da (.frz oo (.dT (enT V.int [])))) Da V.int [] := Frz.new
  generalize (upd (upd H9 Da (.dT (enT V.int []))) Da (.frz oo (.dT (enT V.int [])))) = HE at *
  try dsimp only [List.set]
  walk_at "zz"
  rename_i due0 H10 hr10 s10 er10
  try dsimp only [List.set]
  walk_at "zz"
  refine z_dnew (f := V.int) fun Db hDb => ?_
  refine ⟨Db, _, rfl, upd_same, True.intro, fun oo => ?_⟩
  have sG : Same H10 (upd (upd H10 Db (.dT (enT V.int []))) Db (.frz oo (.dT (enT V.int [])))) := Same.put (Same.new hDb) hDb
  have hG : Frz (upd (upd H10 Db (.dT (enT V.int []))) Db (.frz oo (.dT (enT V.int [])))) Db V.int [] := Frz.new
  generalize (upd (upd H10 Db (.dT (enT V.int []))) Db (.frz oo (.dT (enT V.int [])))) = HG at *
  try dsimp only [List.set]
  walk_at "zz"
  rename_i tops0 H11 hr11 s11 er11
  have sB := Same.trans (Same.trans (Same.trans (Same.trans (Same.trans (Same.trans s8 s9) sE) s10) sG) s11) (Same.refl H11)
  have la0 : La H11 due0 n 80 (tot (wg u) L 0) 2160 500 0 := ⟨1, Da, [], s11 _ _ (sG _ _ er10), ⟨((hE.mono s10).mono sG).mono s11, nd_nil, (fun p m => nomatch m), Nat.le_refl _⟩, by decide, ⟨2160, rfl⟩, by decide, by decide, fun e => by
      show (0 : Int) * 2160 = 0 * 1
      decide⟩
  have lb0 : La H11 tops0 n 80 (tot (wg u) (fun k => hpl h' (L k)) 0) 2160 500 0 := ⟨1, Db, [], er11, ⟨hG.mono s11, nd_nil, (fun p m => nomatch m), Nat.le_refl _⟩, by decide, ⟨2160, rfl⟩, by decide, by decide, fun e => by
      show (0 : Int) * 2160 = 0 * 1
      decide⟩
  have fo11 := fo9.mono (Same.trans (Same.trans (Same.trans sE s10) sG) s11)
  have hy11 := sB _ _ hy7
  have hFL11 : FoL K H11 ys n Fs := FoL.mono sB hFL
  have hw11 := sB _ _ (s7 _ _ hw5)
  have hLL11 := (hLL5.mono s7).mono sB
  have h211 := sB _ _ (s7 _ _ h25)
  rw [lx]
  refine z_foR (by omega) (by omega) (fun i σ Hi => ∃ o7 o12 o13 o14 o15 x d t, σ = [some (V.ref p), some (V.ref c2), some (V.ref D2), some (V.int mode), some (V.int (n : Int)), some (V.ref w), some (V.int h'), o7, some (V.ref D7), some (V.ref x), some (V.ref d), some (V.ref t), o12, o13, o14, o15] ∧ Same H11 Hi ∧ Fo K Hi x n (tot (wg u) L i) 2160 (700 + i) (256 * i) ∧ La Hi d n 80 (tot (wg u) L i) 2160 (500 + 21 * i) (256 * i) ∧ La Hi t n 80 (tot (wg u) (fun k => hpl h' (L k)) i) 2160 (500 + 21 * i) (256 * i)) ⟨_, _, _, _, _, x0, due0, tops0, rfl, fun _ _ h => h, fo11, la0, lb0⟩ (fun i σ Hi hi I => ?_) (fun σ Hi I => ?_)
  · obtain ⟨o7, o12, o13, o14, o15, x, d, t, rfl, sI, foI, laI, lbI⟩ := I
    have im : i < m := by omega
    have i4 : i < 4 := by omega
    obtain ⟨f, ef, hf⟩ := (hFL11.mono sI) i _ (List.getElem?_eq_getElem (by omega : i < ys.length))
    obtain ⟨a, ea, ha⟩ := (hLL11.mono sI) i _ (List.getElem?_eq_getElem (by omega : i < xs.length))
    have ey : ys[i]? = some (.ref f) := by rw [List.getElem?_eq_getElem (by omega : i < ys.length), ef]
    have ex : xs[i]? = some (.ref a) := by rw [List.getElem?_eq_getElem (by omega : i < xs.length), ea]
    have ha := ha.up (Int.le_refl _) (B' := 92) (S' := 16) (by omega) (by omega)
    have hyi := sI _ _ hy11
    have hwi := sI _ _ hw11
    have h2i := sI _ _ h211
    have hRi := hR i im
    obtain ⟨ui1, ui7⟩ := u1 i
    try dsimp only [List.set]
    walk_at "zz"
    refine z_ixC h2i (by omega) (by omega) ?_
    try dsimp only [List.set]
    walk_at "zz"
    refine z_mod (by decide) ?_
    try dsimp only [List.set]
    walk_at "zz"
    rw [← hu i]
    refine z_ixLst hyi (atI_nat ey) ?_
    try dsimp only [List.set]
    walk_at "zz"
    refine z_ixLst hwi (atI_nat ex) ?_
    obtain ⟨_, _, _, ⟨dF, hfF⟩, _⟩ := id hf
    try dsimp only [List.set]
    walk_at "zz"
    refine z_own2 hfF hfF ⟨_, _, rfl, f, f, n, Fs i, Fs i, cv (L i) (L i), 6, 200, 16, 16, L i, L i, rfl, rfl, hf, hf, hRi.1, hRi.1, (fun e => rfl), by decide, by decide, by decide, by decide, by omega, bits12 (by decide) (by decide), fun x1 H12 s12 f12 => ⟨⟨x1, rfl⟩, ?_⟩⟩
    have b12 : ∀ e, Bits 656 (cv (L i) (L i) e) := fun e => (f12.bits e).up (by decide)
    obtain ⟨_, _, _, hfm12, _⟩ := id f12
    try dsimp only [List.set]
    walk_at "zz"
    refine u_mkF (T := u i) (w := (i : Int) + 2) (by omega) ((bits12 (by omega) (by omega)).up (by decide)) rfl (fun r1 H13 s13 fr => ?_)
    have f13 := f12.mono s13
    obtain ⟨_, _, _, hfm13, _⟩ := id f13
    try dsimp only [List.set]
    walk_at "zz"
    refine ⟨_, _, rfl, x1, r1, n, cv (L i) (L i), 6 * 6, u i, (i : Int) + 2, 200 + 200 + 16 * 16, 16 * 16, rfl, rfl, f13, fr, by decide, by decide, by omega, bits12 (by omega) (by omega), by omega, bits12 (by omega) (by omega), bits12 (by omega) (by omega), fun x2 H14 s14 f14 => ?_⟩
    have f14' := (Fo.step (u := u) f14 i4 ui1 ui7 b12).up (B' := 700 + i) (S' := 256) (by omega) (by decide)
    have sC := Same.trans (Same.trans s12 s13) s14
    have fT := foI.mono sC
    obtain ⟨_, _, _, ⟨dT, hfT⟩, _⟩ := id fT
    obtain ⟨_, _, _, ⟨dX, hfX⟩, _⟩ := id f14'
    try dsimp only [List.set]
    walk_at "zz"
    refine z_own2 hfT hfX ⟨_, _, rfl, x, x2, n, tot (wg u) L i, _, 2160, 700 + i, 256 * i, 256, rfl, rfl, fT, f14', by omega, by omega, fun x3 H15 s15 f15 => ⟨⟨x3, rfl⟩, ?_⟩⟩
    have sD := Same.trans sC s15
    have f15' : Fo K H15 x3 n (tot (wg u) L (i + 1)) 2160 (700 + (i + 1)) (256 * (i + 1)) := Fo.up (B' := 700 + (i + 1)) (S' := 256 * (i + 1)) f15 (by omega) (by omega)
    have ha15 := ha.mono sD
    try dsimp only [List.set]
    walk_at "zz"
    refine u_lpr ha15 ha15 hRi.1 hRi.1 (fun e => rfl) (by decide) (by decide) (by decide) (by decide) (by omega) (by decide) (fun r2 H16 s16 l16 => ?_)
    try dsimp only [List.set]
    walk_at "zz"
    refine u_lsc l16 (by decide) ui1 ui7 (by omega) (by omega) (by omega) (fun r3 H17 s17 l17 => ?_)
    have l17' := (La.step (u := u) l17 i4).up (c' := 80) (B' := 500 + 21 * i) (S' := 256) (by decide) (by omega) (by decide)
    have sF := Same.trans (Same.trans sD s16) s17
    try dsimp only [List.set]
    walk_at "zz"
    refine u_lsu (laI.mono sF) l17' (by omega) (by omega) (fun r4 H18 s18 l18 => ?_)
    have sG2 := Same.trans sF s18
    have l18' : La H18 r4 n 80 (tot (wg u) L (i + 1)) 2160 (500 + 21 * (i + 1)) (256 * (i + 1)) := La.up (B' := 500 + 21 * (i + 1)) (S' := 256 * (i + 1)) l18 (Int.le_refl _) (by omega) (by omega)
    try dsimp only [List.set]
    walk_at "zz"
    refine u_deg (ha.mono sG2) (by decide) (fun d19 H19 s19 g19 => ?_)
    obtain rfl : d19 = dd i := g19.uniq (hdd i im)
    have sH := Same.trans sG2 s19
    have f19 := f15'.mono (Same.trans (Same.trans (Same.trans s16 s17) s18) s19)
    have l19 := l18'.mono s19
    have ha19 := ha.mono sH
    have lb19 := lbI.mono sH
    try dsimp only [List.set]
    walk_at "zz"
    refine z_d2 (fun c1 => ?_) (fun c1 => ?_)
    · try dsimp only [List.set]
      walk_at "zz"
      refine u_lto ha19 (by decide) (show Dg (Fs i) h' by rw [← c1]; exact hdd i im) (fun r5 H20 s20 l20 => ?_)
      try dsimp only [List.set]
      walk_at "zz"
      refine u_lpr l20 l20 (Rp.hp hRi).1 (Rp.hp hRi).1 (fun e => rfl) (by decide) (by decide) (by decide) (by decide) (by omega) (by decide) (fun r6 H21 s21 l21 => ?_)
      try dsimp only [List.set]
      walk_at "zz"
      refine u_lsc l21 (by decide) ui1 ui7 (by omega) (by omega) (by omega) (fun r7 H22 s22 l22 => ?_)
      have l22' := (La.step (u := u) l22 i4).up (c' := 80) (B' := 500 + 21 * i) (S' := 256) (by decide) (by omega) (by decide)
      have sK := Same.trans (Same.trans s20 s21) s22
      try dsimp only [List.set]
      walk_at "zz"
      refine u_lsu (lb19.mono sK) l22' (by omega) (by omega) (fun r8 H23 s23 l23 => ?_)
      have sL := Same.trans sK s23
      have l23' : La H23 r8 n 80 (tot (wg u) (fun k => hpl h' (L k)) (i + 1)) 2160 (500 + 21 * (i + 1)) (256 * (i + 1)) := La.up (B' := 500 + 21 * (i + 1)) (S' := 256 * (i + 1)) l23 (Int.le_refl _) (by omega) (by omega)
      try dsimp only [List.set]
      walk_at "zz"
      exact ⟨_, _, _, _, _, x3, r4, r8, rfl, Same.trans (Same.trans sI sH) sL, f19.mono sL, l19.mono sL, l23'⟩
    · have zz : tot (wg u) (fun k => hpl h' (L k)) (i + 1) = tot (wg u) (fun k => hpl h' (L k)) i := tot_skip fun e => by
        rw [(Rp.hp hRi).1]
        exact Dg.low (hdd i im) (hHg.1 i im _ (hdd i im)) c1 e
      try dsimp only [List.set]
      walk_at "zz"
      refine ⟨_, _, _, _, _, x3, r4, t, rfl, Same.trans sI sH, f19, l19, ?_⟩
      rw [zz]
      exact lb19.up (Int.le_refl _) (by omega) (by omega)
  obtain ⟨o7, o12, o13, o14, o15, x, d, t, rfl, sI, foI, laI, lbI⟩ := I
  rw [show ((m : Int)).toNat = m from Int.toNat_natCast m] at foI laI lbI
  have hWp : ∀ k, k < m → 0 < wg u k := fun k hk => wg_pos (u1 k).1 (by omega)
  try dsimp only [List.set]
  walk_at "zz"
  refine u_isf foI laI (by omega) (by omega) (fun H12 s12 => ?_)
  have fo12 := foI.mono s12
  obtain ⟨_, _, RQ, hfm12, _, _, hsQ, _⟩ := id fo12
  have gQ := hsQ.cn.dg
  try dsimp only [List.set]
  walk_at "zz"
  refine ⟨_, rfl, x, n, _, 2160, _, _, _, rfl, fo12, by omega, gQ, fun x1 H13 s13 f13 => ?_⟩
  rw [top_all hR hWp hdd hHg gQ] at f13
  try dsimp only [List.set]
  walk_at "zz"
  have sM := Same.trans s12 s13
  refine u_isf f13 (lbI.mono sM) (by omega) (by omega) (fun H14 s14 => ?_)
  have sN := Same.trans sM s14
  have sO := Same.trans sI sN
  try dsimp only [List.set]
  walk_at "zz"
  exact ⟨_, _, _, _, _, rfl, n, m, x, D7, w, t, xs, ys, Fs, L, wg u, dd, h', 80, _, _, _, _, rfl, rfl, rfl, rfl, rfl, n6, m4, sO _ _ hy11, sO _ _ hw11, lx, by omega, hLL11.mono sO, FoL.mono sO hFL11, hR, hWp, hdd, hHg, foI.mono sN, by omega, by omega, by omega, lbI.mono sN, by omega, fun H' s => by
    try dsimp only [List.set]
    walk_at "zz"
    exact q H'⟩
end
end T
set_option maxHeartbeats 0
open PySem PySem.W PySem.Calls PyProof.Rows
theorem PySem.Challenge.cw_belownought_k15_top_parts_of_squares_holds : PySem.Challenge.rw_belownought_k15_top_parts_of_squares.Holds := by
  w_on; o_law
  refine HandSHeadRun.head_imp (r := T.R) (q := view T.R.prog [0, 57]) (H := T.hk) (ob := T.ob) (M := 12000) (loose := T.loose) (d := HandSHeadRun.topDef T.R.prog 57) (kwd := []) T.ob_eq T.run
    (by kernel_rfl) (by kernel_rfl) (by kernel_rfl) (by rfl) (by first | assumption | decide +kernel) (by decide +kernel) ⟨rfl, rfl, rfl, rfl, rfl, by decide +kernel⟩ ?hw ?hc
  case hw => w_witness2
  case hc =>
    refine L2.walk_ofE (l := PySem.Challenge.rw_belownought_k15_top_parts_of_squares) (n := 63) (k := 11) (x := "script") (CX := L2.CX0) rfl (by decide) (by kernel_rfl) ⟨rfl, by decide, by decide⟩ ?F (fun _ _ _ _ z => z)
    case F =>
      intro w mg fa h Y G hmg0
      obtain ⟨K, KX, c⟩ := Y
      have hmg : mg ("law" : PySem.Str) = some (.ref fa) := by
        have e : (HandSHeadRun.topDef T.R.prog 57).name = ("law" : PySem.Str) := by kernel_rfl
        rw [← e]
        exact hmg0
      have L : T.Lw K mg := ⟨⟨h, KX, G⟩, c⟩
      obtain ⟨fd, F⟩ := L.d_law
      have e := hmg.symm.trans L.g_law
      cases e
      refine ⟨K, fd, Z.sp1 (Z.fs_law K), KX, fun s v => F.bindsA (ps := ["script"]) (fun _ _ _ _ _ _ us hl => match us, hl with | [_], _ => rfl) s [v] rfl, fun H a ns hl _ hS => ⟨_, rfl, a, ns, rfl, hS, hl, fun _ => rfl⟩, fun base _ _ => ?_⟩
      exact Z.law_quiet (T.ok_law L F) (by decide)
