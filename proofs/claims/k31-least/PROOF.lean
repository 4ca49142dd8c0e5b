import PyProof.Rows.All
import Wide.All
import OpenK.AllK
import Wide.FinOn
import HandS.ForMost
import HandS.Exc
import HandS.ExcOwn
import HandS.WordsExc
import HandS.CallSlots
import HandS.TryOnly
import HandS.TryMany
import HandS.Gcd
import HandS.ExcInit
import HandS.IsInst
import HandS.Defaults
import HandS.MakeKw
import HandS.Wide
import HandS.HotCalls
import HandS.ExcIs
import HandS.ExcField
import HandS.Flow
import HandS.Style
import HandS.Head0
import HandS.Head1
import HandS.Head2
import HandS.Head3
import HandS.HeadEnd
import HandS.HeadHook1
import HandS.HeadHook2
import KE.KExcIs
import HandS.Walk
import PySem.Challenge.RW_belownought_k31_least_power
set_option Elab.async false
set_option linter.all false
set_option maxRecDepth 100000
set_option maxHeartbeats 4000000
/-! my own layer over the hand layer: calls by name, own operators, readings step by step -/
namespace Z
open PySem PySem.Spec PyProof.Rows L2

/-! ### callables -/
section
variable (P : Program) (w : World) (K : PySem.W.Frag) (mg : Str → Option Value) (base : Heap)
/-- a def of the module under its name, the defaults dvs filling up -/
structure Cal (k : Nat) (x : Str) (sp : Sp) (dvs : List V) : Prop where
  ex : ∃ (f : Addr) (fd : FuncData) (ps : List Str) (ds : List Value), FnOk P w K mg base (L2N.CX P w) k f fd ps sp ∧ mg x = some (.ref f) ∧ PySem.W.keepIn K (.ref f) = true ∧ Binds K fd ps ds ∧ Vals dvs ds
/-- .. called with keywords ks behind n values -/
structure CalK (k : Nat) (x : Str) (sp : Sp) (n : Nat) (ks : List Str) (gV : List V → List V → List V) : Prop where
  ex : ∃ (f : Addr) (fd : FuncData) (ps : List Str) (g : List Value → List Value → List Value), FnOk P w K mg base (L2N.CX P w) k f fd ps sp ∧ mg x = some (.ref f) ∧ PySem.W.keepIn K (.ref f) = true ∧ KBn K fd ps n ks g gV
/-- .. within an except suite -/
structure CalH (k : Nat) (x : Str) (sp : Sp) : Prop where
  ex : ∃ (f : Addr) (fd : FuncData) (ps : List Str), L2H.FnH P w K mg base (L2N.CX P w) k f fd ps sp ∧ mg x = some (.ref f) ∧ PySem.W.keepIn K (.ref f) = true ∧ Binds K fd ps []
/-- a method -/
structure Met (k : Nat) (C : Addr) (m : Str) (sp : Sp) (dvs : List V) : Prop where
  ex : ∃ (f : Addr) (fd : FuncData) (ps : List Str) (ds : List Value), Cls K C ∧ Meth K C m f ∧ FnOk P w K mg base (L2N.CX P w) k f fd ps sp ∧ Binds K fd ps ds ∧ Vals dvs ds
/-- a class made by its name -/
structure Mak (k : Nat) (x : Str) (C : Addr) (sp : Sp) (dvs : List V) : Prop where
  ex : ∃ (f : Addr) (fd : FuncData) (ps : List Str) (ds : List Value), Mk K C f ∧ FnOk P w K mg base (L2N.CX P w) k f fd ps sp ∧ mg x = some (.ref C) ∧ Binds K fd ps ds ∧ Vals dvs ds
structure MakK (k : Nat) (x : Str) (C : Addr) (sp : Sp) (n : Nat) (ks : List Str) (gV : List V → List V → List V) : Prop where
  ex : ∃ (f : Addr) (fd : FuncData) (ps : List Str) (g : List Value → List Value → List Value), Mk K C f ∧ FnOk P w K mg base (L2N.CX P w) k f fd ps sp ∧ mg x = some (.ref C) ∧ KBn K fd ps (n + 1) ks g gV
/-- an exception class made by its name, its own __init__ keeping sp -/
structure MakX (k : Nat) (x : Str) (C : Addr) (sp : Sp) : Prop where
  ex : ∃ (f : Addr) (fd : FuncData) (ps : List Str), OexC K C ∧ PySem.W.findIn K (.ref C) "__init__" = some (some (.ref f)) ∧ PySem.W.typeIn K (.ref f) = some (.type "function") ∧ FnOk P w K mg base (L2N.CX P w) k f fd ps sp ∧ mg x = some (.ref C) ∧ Binds K fd ps []
end

/-- what a call lets out, wished for by W -/
def tCallW (sp : Sp) (dvs : List V) (W : WX) (t : TA) : TE := fun σ H Q => t σ H fun vs H1 => sp (vs ++ dvs) H1 Q (fun cls d H' => W cls d σ H')
def tCallKW (n m : Nat) (sp : Sp) (gV : List V → List V → List V) (E : XK) (t tk : TA) : TE := fun σ H Q => t σ H fun vs H1 => tk σ H1 fun zs H2 => vs.length = n ∧ zs.length = m ∧ sp (gV vs zs) H2 Q E
def tMethW (C : Addr) (m : Str) (sp : Sp) (dvs : List V) (W : WX) (ta : TE) (t : TA) : TE := fun σ H Q => ta σ H fun x H1 => ∃ a dx fs, x = .ref a ∧ H1 a = some (.ins C dx fs) ∧ fs.lookup m = none ∧
  t σ H1 fun vs H2 => sp (x :: (vs ++ dvs)) H2 Q (fun cls d H' => W cls d σ H')
def tMakeW (C : Addr) (sp : Sp) (dvs : List V) (W : WX) (t : TA) : TE := fun σ H Q => t σ H fun vs H1 => ∀ x dx, H1 x = none → H1 dx = none → dx ≠ x →
  sp (.ref x :: (vs ++ dvs)) (upd (upd H1 dx (.own x)) x (.ins C dx [])) (fun v H2 => v = .non ∧ Q (.ref x) H2) (fun cls d H' => W cls d σ H')

section
variable {X : Cx} {k j : Nat} {f C : Addr} {fd : FuncData} {ps : List Str} {sp : Sp} {dvs : List V} {ds : List Value} {W : WX} {x m : Str} {p pos apos : Pos} {e o : Expr} {es : List Expr} {ta : TE} {t : TA}
theorem passW (tk : L2N.Takes X W) (σ : L2.St) : PassesAt (L2N.CX X.prog X.w) X σ (fun cls d H => W cls d σ H) := L2N.passAt tk σ
theorem pe_c (c : Cal X.prog X.w X.K X.mg X.base k x sp dvs) (hr : Room j X.A) (hk : k ≤ j) (tk : L2N.Takes X W) (ha : PA X (e :: es) t) (hg : Gl X x := by rfl)
    (hdb : (x == ("__debug__" : Str)) = false := by decide) (he : starEach (e :: es) X.env = (false, eval e X.env) :: starEach es X.env := by rfl) (hpl : (backTo pos (starEach es X.env)).any (·.1) = false := by rfl) :
    PE X (.Call (.Name x p) (e :: es) [] pos) (tCallW sp dvs W t) := by
  obtain ⟨f, fd, ps, ds, F, hm, kp, b, d⟩ := c.ex
  exact pe_callSD (E := fun σ cls d H => W cls d σ H) F (hr.mono hk) hg hm kp b d (passW tk) ha hdb he hpl
theorem pe_c0 (c : Cal X.prog X.w X.K X.mg X.base k x sp dvs) (hr : Room j X.A) (hk : k ≤ j) (tk : L2N.Takes X W) (hg : Gl X x := by rfl)
    (hdb : (x == ("__debug__" : Str)) = false := by decide) :
    PE X (.Call (.Name x p) [] [] pos) (tCallW sp dvs W tNil) := by
  obtain ⟨f, fd, ps, ds, F, hm, kp, b, d⟩ := c.ex
  refine ⟨fun pins s σ H Q I h => ?_⟩
  refine wpAny_Call_Name_kw (ld_glob I hg hm ?_ hdb)
  exact PySem.W.callWith_K0 I.kIn kp (run_fnSD (us := []) (E := fun σ cls d H => W cls d σ H) F (hr.mono hk) b d (passW tk σ) I .nil h)
/-- called with keywords; what leaves it is wished for by E, whatever the slots are -/
theorem pe_ck {n : Nat} {ks : List Str} {gV : List V → List V → List V} {E : XK} {kws : List Keyword} {tw : TA} (c : CalK X.prog X.w X.K X.mg X.base k x sp n ks gV) (hr : Room j X.A) (hk : k ≤ j) (hx : Passes (L2N.CX X.prog X.w) X E) (ha : PA X (e :: es) t) (hkw : PK X kws tw) (hg : Gl X x := by rfl)
    (hall : (backToKw pos (keywordEach kws X.env)).all (·.1.isSome) = true := by rfl) (hks : (backToKw pos (keywordEach kws X.env)).filterMap (·.1) = ks := by rfl)
    (hdb : (x == ("__debug__" : Str)) = false := by decide) (he : starEach (e :: es) X.env = (false, eval e X.env) :: starEach es X.env := by rfl)
    (hpl : ((backTo pos (starEach (e :: es) X.env)).any (·.1) || (backToKw pos (keywordEach kws X.env)).any (·.1.isNone)) = false := by rfl) :
    PE X (.Call (.Name x p) (e :: es) kws pos) (tCallN n ks.length sp gV E t tw) := by
  obtain ⟨f, fd, ps, g, F, hm, kp, b⟩ := c.ex
  exact pe_callN F (hr.mono hk) hg hm kp b hx ha hkw hall hks hdb he hpl
/-- .. keywords alone -/
theorem pe_ck0 {ks : List Str} {gV : List V → List V → List V} {E : XK} {kw : Keyword} {kws : List Keyword} {tw : TA} (c : CalK X.prog X.w X.K X.mg X.base k x sp 0 ks gV) (hr : Room j X.A) (hk : k ≤ j) (hx : Passes (L2N.CX X.prog X.w) X E) (hkw : PK X (kw :: kws) tw) (hg : Gl X x := by rfl)
    (hall : (backToKw pos (keywordEach (kw :: kws) X.env)).all (·.1.isSome) = true := by rfl) (hks : (backToKw pos (keywordEach (kw :: kws) X.env)).filterMap (·.1) = ks := by rfl)
    (hdb : (x == ("__debug__" : Str)) = false := by decide)
    (hpl : ((backTo pos (starEach [] X.env)).any (·.1) || (backToKw pos (keywordEach (kw :: kws) X.env)).any (·.1.isNone)) = false := by rfl) :
    PE X (.Call (.Name x p) [] (kw :: kws) pos) (tCallN 0 ks.length sp gV E tNil tw) := by
  obtain ⟨f, fd, ps, g, F, hm, kp, b⟩ := c.ex
  refine ⟨fun pi s0 sl H0 Q0 J0 h0 => ?_⟩
  have J := J0
  refine wpAny_Call_Name_kw (ld_glob J hg hm ?_ hdb)
  refine PySem.W.callWith_KW0 (h₀ := X.base) J.ok.mod.kin kp hall ?_ hpl
  refine thn (hkw.run pos pi s0 sl H0 _ J h0) fun ws s2 ⟨zs, H2, J2, rz, _, l2, q2⟩ => ⟨J2.kIn, ?_⟩
  rw [hks]
  exact run_fnN (vs := []) F (hr.mono hk) b hx J2 .nil rz rfl l2 q2
/-- making an instance, the wish at the slots -/
theorem run_mkS {pi : List (Addr × Obj)} {sl : L2.St} {H0 : Hp} {s0 : Shared} {Q0 : VK} {us : List Value} {xs : List V} {E0 : XK} (M : Mk X.K C f) (F : FnOk X.prog X.w X.K X.mg X.base (L2N.CX X.prog X.w) k f fd ps sp) (hr : Room (k + 1) X.A) (hb : Binds X.K fd ps ds) (hd : Vals dvs ds)
    (hx : PassesAt (L2N.CX X.prog X.w) X sl E0) (J : Inv X pi sl H0 s0) (r : Vals xs us)
    (h : ∀ y dy, H0 y = none → H0 dy = none → dy ≠ y → sp (.ref y :: (xs ++ dvs)) (upd (upd H0 dy (.own y)) y (.ins C dy [])) (fun v H2 => v = .non ∧ Q0 (.ref y) H2) E0) :
    wpAny (model X.prog X.w) X.A (call (.ref C) us) (EP X pi sl Q0) X.xe s0 := by
  have g1 := J.hok.fresh (Nat.le_succ s0.heap.objs.size)
  have g2 := J.hok.fresh (Nat.le_refl s0.heap.objs.size)
  have asked := h _ _ g1 g2 (Nat.ne_of_lt (Nat.lt_succ_self _))
  have J2 := Inv.made (C := C) J
  have rs : Vals (V.ref (s0.heap.objs.size + 1) :: (xs ++ dvs)) (Value.ref (s0.heap.objs.size + 1) :: (us ++ ds)) := .cons rfl (r.append hd)
  have sz : (Value.ref (s0.heap.objs.size + 1) :: us ++ ds).length = ps.length := rs.length.symm.trans (F.len _ _ _ _ asked)
  have bd := hb _ (Value.ref (s0.heap.objs.size + 1) :: us) J2.kIn sz
  have run := F.run (X.A.under (.builtin "type.__call__" ⟨.ref C :: us, []⟩)) X.stack _ _ ⟨Value.ref (s0.heap.objs.size + 1) :: us, []⟩ _ _ _ _ (hr.make C us []) (J2.env0.make C us []) bd rs asked
  refine wpAny_call (make_map (f := f) J.kIn M.makes M.init (beq_iff_eq.mp M.fn) (codeAny_mono run fun fin s1 hq => ?_))
  match fin, hq with
  | .error er, hq => exact hx pi _ _ er s1 J2 hq
  | .ok (.ret u), hq =>
    obtain ⟨v, H3, J3, rv, ev, q3⟩ := J2.after hq
    subst ev
    exact ⟨rv, ⟨V.ref (s0.heap.objs.size + 1), H3, J3, rfl, q3⟩⟩
theorem pe_mk (c : Mak X.prog X.w X.K X.mg X.base k x C sp dvs) (hr : Room j X.A) (hk : k + 1 ≤ j) (tk : L2N.Takes X W) (ha : PA X (e :: es) t) (hg : Gl X x := by rfl)
    (hdb : (x == ("__debug__" : Str)) = false := by decide) (he : starEach (e :: es) X.env = (false, eval e X.env) :: starEach es X.env := by rfl) (hpl : (backTo pos (starEach es X.env)).any (·.1) = false := by rfl) :
    PE X (.Call (.Name x p) (e :: es) [] pos) (tMakeW C sp dvs W t) := by
  obtain ⟨f, fd, ps, ds, M, F, hm, b, d⟩ := c.ex
  refine ⟨fun pi s0 sl H0 Q0 J h0 => ?_⟩
  refine wpAny_Call_Name_kw (ld_glob J hg hm ?_ hdb)
  refine PySem.W.callWith_K (h₀ := X.base) J.ok.mod.kin M.kp (thn (ha.run pos pi s0 sl H0 _ J h0) fun us s1 ⟨xs, H1, J1, r, q⟩ => ⟨J1.kIn, ?_⟩) he hpl
  exact run_mkS M F (hr.mono hk) b d (passW tk sl) J1 r q
theorem pe_mk0 (c : Mak X.prog X.w X.K X.mg X.base k x C sp dvs) (hr : Room j X.A) (hk : k + 1 ≤ j) (tk : L2N.Takes X W) (hg : Gl X x := by rfl)
    (hdb : (x == ("__debug__" : Str)) = false := by decide) :
    PE X (.Call (.Name x p) [] [] pos) (tMakeW C sp dvs W tNil) := by
  obtain ⟨f, fd, ps, ds, M, F, hm, b, d⟩ := c.ex
  refine ⟨fun pi s0 sl H0 Q0 J h0 => ?_⟩
  refine wpAny_Call_Name_kw (ld_glob J hg hm ?_ hdb)
  exact PySem.W.callWith_K0 J.kIn M.kp (run_mkS (us := []) M F (hr.mono hk) b d (passW tk sl) J .nil h0)
theorem pe_mkk {n : Nat} {ks : List Str} {gV : List V → List V → List V} {E : XK} {kws : List Keyword} {tw : TA} (c : MakK X.prog X.w X.K X.mg X.base k x C sp n ks gV) (hr : Room j X.A) (hk : k + 1 ≤ j) (hx : Passes (L2N.CX X.prog X.w) X E) (ha : PA X (e :: es) t) (hkw : PK X kws tw) (hg : Gl X x := by rfl)
    (hall : (backToKw pos (keywordEach kws X.env)).all (·.1.isSome) = true := by rfl) (hks : (backToKw pos (keywordEach kws X.env)).filterMap (·.1) = ks := by rfl)
    (hdb : (x == ("__debug__" : Str)) = false := by decide) (he : starEach (e :: es) X.env = (false, eval e X.env) :: starEach es X.env := by rfl)
    (hpl : ((backTo pos (starEach (e :: es) X.env)).any (·.1) || (backToKw pos (keywordEach kws X.env)).any (·.1.isNone)) = false := by rfl) :
    PE X (.Call (.Name x p) (e :: es) kws pos) (tMakeN C n ks.length sp gV E t tw) := by
  obtain ⟨f, fd, ps, g, M, F, hm, b⟩ := c.ex
  exact pe_makeN M F (hr.mono hk) hg hm b hx ha hkw hall hks hdb he hpl
theorem pe_mkk0 {ks : List Str} {gV : List V → List V → List V} {E : XK} {kw : Keyword} {kws : List Keyword} {tw : TA} (c : MakK X.prog X.w X.K X.mg X.base k x C sp 0 ks gV) (hr : Room j X.A) (hk : k + 1 ≤ j) (hx : Passes (L2N.CX X.prog X.w) X E) (hkw : PK X (kw :: kws) tw) (hg : Gl X x := by rfl)
    (hall : (backToKw pos (keywordEach (kw :: kws) X.env)).all (·.1.isSome) = true := by rfl) (hks : (backToKw pos (keywordEach (kw :: kws) X.env)).filterMap (·.1) = ks := by rfl)
    (hdb : (x == ("__debug__" : Str)) = false := by decide)
    (hpl : ((backTo pos (starEach [] X.env)).any (·.1) || (backToKw pos (keywordEach (kw :: kws) X.env)).any (·.1.isNone)) = false := by rfl) :
    PE X (.Call (.Name x p) [] (kw :: kws) pos) (tMakeN C 0 ks.length sp gV E tNil tw) := by
  obtain ⟨f, fd, ps, g, M, F, hm, b⟩ := c.ex
  refine ⟨fun pi s0 sl H0 Q0 J h0 => ?_⟩
  refine wpAny_Call_Name_kw (ld_glob J hg hm ?_ hdb)
  refine PySem.W.callWith_KW0 (h₀ := X.base) J.ok.mod.kin M.kp hall ?_ hpl
  refine thn (hkw.run pos pi s0 sl H0 _ J h0) fun ws s2 ⟨zs, H2, J2, rz, l1, l2, q2⟩ => ⟨J2.kIn, ?_⟩
  rw [hks]
  exact run_makeN (vs := []) M F (hr.mono hk) b hx J2 .nil rz rfl l2 q2
/-- o.m(..) of an own class -/
theorem pe_mt {pl : Sem Bool} (c : Met X.prog X.w X.K X.mg X.base k C m sp dvs) (hr : Room j X.A) (hk : k ≤ j) (tk : L2N.Takes X W) (ho : PE X o ta) (ha : PA X (e :: es) t)
    (hst : starEach (e :: es) X.env = (false, eval e X.env) :: starEach es X.env := by rfl) (hpl : (backTo pos (starEach es X.env)).any (·.1) = false := by rfl)
    (ht : eval (.Call (.Attribute o m apos) (e :: es) [] pos) X.env = (do
      let ov ← eval o X.env; standAt apos.atName
      let (f, first) ← holding [ov] (getMethod ov m pl); callWith pos f first (backTo pos (starEach (e :: es) X.env)) (backToKw pos (keywordEach [] X.env))) := by rfl) :
    PE X (.Call (.Attribute o m apos) (e :: es) [] pos) (tMethW C m sp dvs W ta t) := by
  obtain ⟨f, fd, ps, ds, hc, hm, F, b, d⟩ := c.ex
  refine ⟨fun pi s0 sl H0 Q0 J h0 => ?_⟩
  refine PySem.W.methodCall_KW (pl := pl) (thn (ho.run pi s0 sl H0 _ J h0) fun u s1 ⟨y, H1, J1, ry, a, dy, fs, ey, ea, l, q⟩ => ?_) ht
  subst ey
  obtain rfl : u = Value.ref a := ry
  refine getmeth_ok J1 ea hc hm l ?_
  refine PySem.W.callWith_K (first := [.ref a]) (h₀ := X.base) J.ok.mod.kin hm.kp (thn (ha.run pos pi s1 sl H1 _ J1 q) fun us s2 ⟨xs, H2, J2, r, q2⟩ => ⟨J2.kIn, ?_⟩) hst hpl
  exact run_fnSD (us := .ref a :: us) (vs := .ref a :: xs) (E := fun σ cls d H => W cls d σ H) F (hr.mono hk) b d (passW tk sl) J2 (.cons rfl r) q2
theorem pe_mt0 {pl : Sem Bool} (c : Met X.prog X.w X.K X.mg X.base k C m sp dvs) (hr : Room j X.A) (hk : k ≤ j) (tk : L2N.Takes X W) (ho : PE X o ta)
    (ht : eval (.Call (.Attribute o m apos) [] [] pos) X.env = (do
      let ov ← eval o X.env; standAt apos.atName
      let (f, first) ← holding [ov] (getMethod ov m pl); callWith pos f first (backTo pos (starEach [] X.env)) (backToKw pos (keywordEach [] X.env))) := by rfl) :
    PE X (.Call (.Attribute o m apos) [] [] pos) (tMethW C m sp dvs W ta tNil) := by
  obtain ⟨f, fd, ps, ds, hc, hm, F, b, d⟩ := c.ex
  refine ⟨fun pi s0 sl H0 Q0 J h0 => ?_⟩
  refine PySem.W.methodCall_KW (pl := pl) (thn (ho.run pi s0 sl H0 _ J h0) fun u s1 ⟨y, H1, J1, ry, a, dy, fs, ey, ea, l, q⟩ => ?_) ht
  subst ey
  obtain rfl : u = Value.ref a := ry
  refine getmeth_ok J1 ea hc hm l ?_
  exact PySem.W.callWith_K0 (first := [.ref a]) J1.kIn hm.kp (run_fnSD (us := [.ref a]) (vs := [.ref a]) (E := fun σ cls d H => W cls d σ H) F (hr.mono hk) b d (passW tk sl) J1 (.cons rfl .nil) q)
end
end Z

set_option maxHeartbeats 4000000
/-! own exceptions made, own operators, unions of rules, the readings' steps -/
namespace Z
open PySem PySem.Spec PyProof.Rows L2

section
variable {X : Cx} {k j : Nat} {C : Addr} {sp : Sp} {W : WX} {x : Str} {p pos : Pos} {e : Expr} {es : List Expr} {t : TA}
/-- X(), X an own exception class without an __init__ of the text -/
theorem pmk_x0 {bmB : List Value} {B newId initId : String} (F : ExcBaseFacts B newId initId bmB) (q : PySem.W.excIn X.K C bmB newId = true) (gC : X.mg x = some (.ref C)) (kC : PySem.W.keepIn X.K (.ref C) = true) (r : Raises X (.ref C)) (hg : Gl X x := by rfl)
    (hdb : (x == ("__debug__" : Str)) = false := by decide) : L2N.PMk X (.Call (.Name x p) [] [] pos) (fun _ H Q => Q (.ref C) none H) := by
  intro pi s0 sl H0 Q0 J h0
  refine wpAny_Call_Name_kw (ld_glob J hg gC ?_ hdb)
  refine PySem.W.callWith_K0 J.kIn kC ?_
  show wpAny _ _ (call (.ref C) []) _ _ _
  obtain ⟨bm, N, nm, qn, bs, hdct, sn, sub, ab, col, dd, k0, k1, k2, k3, k5, mN, hC, hN, hni, T⟩ := exc_obj J.kIn q
  refine wpAny_call_exc_subT F T hC hN hni (fun h1 e1 hm => ?_) (Nat.zero_le _)
  exact L2N.mk_of J hm r h0 (J.hok.gone hm.new)
/-- C(..), C's own __init__ keeping sp: what is left is an exception without a context -/
theorem run_exc {fI : Addr} {fd : FuncData} {ps : List Str} {pi : List (Addr × Obj)} {sl : L2.St} {H1 : Hp} {s1 : Shared} {Q0 : XK} {us : List Value} {xs : List V} (T : OexC X.K C) (iC : PySem.W.findIn X.K (.ref C) "__init__" = some (some (.ref fI)))
    (tI : PySem.W.typeIn X.K (.ref fI) = some (.type "function")) (F1 : FnOk X.prog X.w X.K X.mg X.base (L2N.CX X.prog X.w) k fI fd ps sp) (hr : Room (k + 1) X.A) (hb : Binds X.K fd ps []) (hx : Passes (L2N.CX X.prog X.w) X (fun _ _ _ => False)) (J1 : Inv X pi sl H1 s1) (r1 : Vals xs us) (hz : xs.length ≤ 1000)
    (q1 : ∀ a, H1 a = none → sp (.ref a :: (xs ++ [])) (upd H1 a (exo a C none)) (fun v H2 => v = .non ∧ ∃ (d : Addr) (fs : List (Str × V)), H2 a = some (exo a C (some d)) ∧ H2 d = some (exd d fs) ∧ H1 d = none ∧ Q0 (.ref C) (some d) (upd (del H2 a) d (.xd fs))) (fun _ _ _ => False)) :
    wpAny (model X.prog X.w) X.A (call (.ref C) us) (L2N.MkP X pi sl Q0) X.xe s1 := by
  obtain ⟨nm, q, N, bs, bm, sn, sub, ab, col, dd, k0, k1, k2, k3, k5, hC, hbm⟩ := T.cls
  obtain ⟨hp, g, dr, tk, os⟩ := s1
  have sz0 := Nat.le_succ hp.objs.size
  have nw : H1 (hp.objs.size + 1) = none := J1.hok.fresh sz0
  have asked := q1 _ nw
  have old : ∀ b o, hp.get? b = some o → ((hp.push (PySem.W.kdv_tup us)).push (PySem.HandSPX.excO C hp.objs.size)).get? b = some o := fun b o e1 => Heap.get?_push_of_some _ (Heap.get?_push_of_some _ e1)
  have at_new : ((hp.push (PySem.W.kdv_tup us)).push (PySem.HandSPX.excO C hp.objs.size)).get? (hp.objs.size + 1) = some (PySem.HandSPX.excO C hp.objs.size) := by heap_get
  have J2 := J1.laid (t' := tk) (a := hp.objs.size + 1) (o := exo (hp.objs.size + 1) C none) old sz0 (exo_ok at_new)
  have r2 : Vals (V.ref (hp.objs.size + 1) :: (xs ++ [])) (Value.ref (hp.objs.size + 1) :: (us ++ [])) := .cons rfl (r1.append .nil)
  have szl : (Value.ref (hp.objs.size + 1) :: us ++ []).length = ps.length := r2.length.symm.trans (F1.len _ _ _ _ asked)
  have szu : us.length ≤ sizeLine := by rw [← Paired.length r1, sizeLine_eq]; omega
  have bd := hb _ (Value.ref (hp.objs.size + 1) :: us) J2.kIn szl
  have run := F1.run (X.A.under (.builtin "type.__call__" ⟨.ref C :: us, []⟩)) X.stack _ _ ⟨Value.ref (hp.objs.size + 1) :: us, []⟩ _ _ _ (fun _ _ _ => False) (hr.make C us []) (J2.env0.make C us []) bd r2 asked
  have looks := PySem.W.looks_findIn (M := model X.prog X.w) J1.kIn iC
  refine wpAny_call (PySem.HandSPX.call_own PySem.F.excBase_ValueError (fun Y => PySem.HandSPX.refsVE_contains Y bm hbm) (J1.kIn _ _ hC) looks (fun self => PySem.W.bind_fn J1.kIn self tI) szu (codeAny_mono run fun fin s3 hq => ?_))
  match fin, hq with
  | .error er, hq => exact hx pi sl _ _ er s3 J2 hq
  | .ok (.ret u), hq =>
    obtain ⟨v, H2, os2, bare2, un2, hok2, rv, ev, d, fs, ea, ed, hd1, q2⟩ := hq
    subst ev
    obtain ⟨h2, g2, d2, t2, os'⟩ := s3
    obtain ⟨t0, G, J3, kG, ge, hoe, na⟩ := mk_end0 (d2 := d2) (t2 := t2) J1 sz0 old un2 hok2 os2 bare2 ea ed hd1
    exact ⟨rv, _, _, _, ⟨G, g2, d2, t2, os'⟩, _, .ref C, some d, rfl, J3, kG, ge, hoe, ⟨rfl, rfl, fun vs ev => by cases ev; rfl⟩, rfl, rfl, na, rfl, bare2, raises_own T.exC T.tyC, q2⟩
theorem pmk_x (c : MakX X.prog X.w X.K X.mg X.base k x C sp) (hr : Room j X.A) (hk : k + 1 ≤ j) (hx : Passes (L2N.CX X.prog X.w) X (fun _ _ _ => False)) (ha : PA X (e :: es) t) (hg : Gl X x := by rfl)
    (hdb : (x == ("__debug__" : Str)) = false := by decide) (he : starEach (e :: es) X.env = (false, eval e X.env) :: starEach es X.env := by rfl) (hpl : (backTo pos (starEach es X.env)).any (·.1) = false := by rfl) :
    L2N.PMk X (.Call (.Name x p) (e :: es) [] pos) (tMkO C sp [] t) := by
  obtain ⟨f, fd, ps, T, iC, tI, F, hm, b⟩ := c.ex
  intro pi s0 sl H0 Q0 J h0
  refine wpAny_Call_Name_kw (ld_glob J hg hm ?_ hdb)
  refine PySem.W.callWith_K (h₀ := X.base) J.ok.mod.kin T.kC (thn (ha.run pos pi s0 sl H0 _ J h0) fun us s1 ⟨xs, H1, J1, r1, hz, q1⟩ => ⟨J1.kIn, ?_⟩) he hpl
  exact run_exc T iC tI F (hr.mono hk) b hx J1 r1 hz q1
theorem passF : Passes (L2N.CX X.prog X.w) X (fun _ _ _ => False) := fun _ _ _ _ _ _ _ h => by
  obtain ⟨_, _, _, _, _, _, _, _, _, _, _, _, z⟩ := h
  exact z.elim
/-- what leaves a def's own frame -/
theorem passE {E : XK} (tk : L2N.Takes X (fun cls d _ H => E cls d H)) : Passes (L2N.CX X.prog X.w) X E := L2N.passes_call tk fun _ _ _ _ h => h

/-! ### operators of own classes -/
def rOwn1 (C : Addr) (sp : Sp) (E : XK) : V → Hp → VK → Prop := fun x H Q => ∃ a dx fs, x = .ref a ∧ H a = some (.ins C dx fs) ∧ sp [.ref a] H Q E
def rOwn2 (C : Addr) (sp : Sp) (E : XK) : R2 := fun x y H Q => ∃ a b dx dy fs gs, x = .ref a ∧ y = .ref b ∧ H a = some (.ins C dx fs) ∧ H b = some (.ins C dy gs) ∧ sp [.ref a, .ref b] H (fun v H' => (∃ q, v = .ref q) ∧ Q v H') E
theorem un_own (c : Met X.prog X.w X.K X.mg X.base k C "__neg__" sp []) (hr : Room j X.A) (hk : k ≤ j) {E : XK} (hx : Passes (L2N.CX X.prog X.w) X E) : UnR X (unaryOp .USub) (rOwn1 C sp E) := by
  intro pi s0 sl H0 y v Q0 J ry h0
  obtain ⟨a, dy, fs, rfl, ea, q⟩ := h0
  obtain rfl : v = Value.ref a := ry
  obtain ⟨f, fd, ps, ds, hc, hm, F, b, d⟩ := c.ex
  obtain ⟨mA, O, _⟩ := ins_get J.hok ea
  obtain ⟨od, I0, _⟩ := O.look
  obtain ⟨m0, fr⟩ := J.fr
  refine PySem.W.ksp_neg fr J.ok.mod.kin I0 hm.at_ hm.fn ?_
  exact run_fn (us := [.ref a]) (vs := [.ref a]) F (hr.mono hk) b d hx J (.cons rfl .nil) q
theorem ref_cls {pi : List (Addr × Obj)} {s0 : Shared} {sl : L2.St} {H0 : Hp} {b dy : Addr} {gs : List (Str × V)} (J : Inv X pi sl H0 s0) (eb : H0 b = some (.ins C dy gs)) {M : Model} : PySem.W.Looks M s0.heap (typeOf (.ref b)) (.ref C) := by
  obtain ⟨mA, O, _⟩ := ins_get J.hok eb
  obtain ⟨od, I0, _⟩ := O.look
  exact I0.type
theorem op_own {op : Operator} {m : Str} (hop : PySem.dunder op.info.2 = m) (hs : PySem.W.selfFirst X.K C = true) (c : Met X.prog X.w X.K X.mg X.base k C m sp []) (hr : Room j X.A) (hk : k ≤ j) {E : XK} (hx : Passes (L2N.CX X.prog X.w) X E) : OpR X (binaryOp op) (rOwn2 C sp E) := by
  intro pi s0 sl H0 y z v u Q0 J ry rz h0
  obtain ⟨a, b, dy, dz, fs, gs, rfl, rfl, ea, eb, q⟩ := h0
  obtain rfl : v = Value.ref a := ry
  obtain rfl : u = Value.ref b := rz
  obtain ⟨f, fd, ps, ds, hc, hm, F, bd, d⟩ := c.ex
  obtain ⟨mA, O, _⟩ := ins_get J.hok ea
  obtain ⟨od, I0, _⟩ := O.look
  obtain ⟨m0, fr⟩ := J.fr
  refine PySem.W.binop_K fr J.ok.mod.kin I0 (ref_cls J eb) hs (by rw [hop]; exact hm.at_) hm.fn ?_
  cases d
  refine wpAny_mono (run_fn (us := [.ref a, .ref b]) (vs := [.ref a, .ref b]) F (hr.mono hk) bd .nil hx J (.cons rfl (.cons rfl .nil)) q) (fun r s1 hq => ?_) fun _ _ z => z
  obtain ⟨v1, H1, J1, rv, ⟨q1, e1⟩, q2⟩ := hq
  subst e1
  obtain rfl : r = Value.ref q1 := rv
  exact ⟨.ref q1, H1, J1, rfl, q2⟩

/-! ### unions -/
def rOr (r r' : R2) : R2 := fun x y H Q => r x y H Q ∨ r' x y H Q
def rOr1 (r r' : V → Hp → VK → Prop) : V → Hp → VK → Prop := fun x H Q => r x H Q ∨ r' x H Q
theorem op_or2 {f : Value → Value → Sem Value} {r r' : R2} (h : OpR X f r) (h' : OpR X f r') : OpR X f (rOr r r') := by
  intro pi s0 sl H0 y z v u Q0 J ry rz h0
  rcases h0 with h0 | h0
  · exact h _ _ _ _ _ _ _ _ _ J ry rz h0
  · exact h' _ _ _ _ _ _ _ _ _ J ry rz h0
theorem un_or2 {f : Value → Sem Value} {r r' : V → Hp → VK → Prop} (h : UnR X f r) (h' : UnR X f r') : UnR X f (rOr1 r r') := by
  intro pi s0 sl H0 y v Q0 J ry h0
  rcases h0 with h0 | h0
  · exact h _ _ _ _ _ _ _ J ry h0
  · exact h' _ _ _ _ _ _ _ J ry h0

/-! ### named operators -/
def zNeg : V → Hp → VK → Prop := fun x H Q => ∃ i, x = .int i ∧ Q (.int (-i)) H
def zAdd : R2 := fun x y H Q => ∃ i j, x = .int i ∧ y = .int j ∧ Q (.int (i + j)) H
def zSub : R2 := fun x y H Q => ∃ i j, x = .int i ∧ y = .int j ∧ Q (.int (i - j)) H
/-- a size of bits -/
def Bits (n : Nat) (i : Int) : Prop := i.natAbs < 2 ^ n
def zMul : R2 := fun x y H Q => ∃ i j, x = .int i ∧ y = .int j ∧ IntMulOk i j ∧ Q (.int (i * j)) H
def zDiv : R2 := fun x y H Q => ∃ i j, x = .int i ∧ y = .int j ∧ (j ≠ 0 ∧ j.natAbs.log2 < 9000) ∧ Q (.int (i.fdiv j)) H
def zMod : R2 := fun x y H Q => ∃ i j, x = .int i ∧ y = .int j ∧ 0 < j ∧ Q (.int (i % j)) H
def zPow : R2 := fun x y H Q => ∃ i j, x = .int i ∧ y = .int j ∧ CPow i j ∧ Q (.int (i ^ j.toNat)) H
def zLt : R2 := fun x y H Q => ∃ i j, x = .int i ∧ y = .int j ∧ Q (.bl (decide (i < j))) H
def zLe : R2 := fun x y H Q => ∃ i j, x = .int i ∧ y = .int j ∧ Q (.bl (decide (i ≤ j))) H
def zGt : R2 := fun x y H Q => ∃ i j, x = .int i ∧ y = .int j ∧ Q (.bl (decide (j < i))) H
def zGe : R2 := fun x y H Q => ∃ i j, x = .int i ∧ y = .int j ∧ Q (.bl (decide (j ≤ i))) H
def zIsN : R2 := fun x y H Q => y = .non ∧ Q (.bl (decide (x = .non))) H
def zNotN : R2 := fun x y H Q => y = .non ∧ Q (.bl (!decide (x = .non))) H
theorem o_neg : UnR X (unaryOp .USub) zNeg := un_neg
theorem o_add : OpR X (binaryOp .Add) zAdd := op_add
theorem o_sub : OpR X (binaryOp .Sub) zSub := op_sub
theorem o_mul : OpR X (binaryOp .Mult) zMul := opI fun _ _ _ _ _ _ _ hc q => mul_int q hc
theorem o_div : OpR X (binaryOp .FloorDiv) zDiv := opI (C := fun _ j => j ≠ 0 ∧ j.natAbs.log2 < 9000) fun _ _ _ _ _ _ _ hc q => floordiv_int hc.1 q (.inl (PyProof.noPylong_of_log2 hc.2))
theorem o_mod : OpR X (binaryOp .Mod) zMod := op_mod
theorem o_pow : OpR X (binaryOp .Pow) zPow := op_pow
theorem o_lt : OpR X (compareOp .Lt) zLt := op_lt
theorem o_le : OpR X (compareOp .LtE) zLe := op_le
theorem o_gt : OpR X (compareOp .Gt) zGt := op_gt
theorem o_ge : OpR X (compareOp .GtE) zGe := op_ge
theorem o_isN : OpR X (compareOp .Is) zIsN := op_isN
theorem o_notN : OpR X (compareOp .IsNot) zNotN := op_notN
end

/-! ### the readings' steps -/
section
variable {K : PySem.W.Frag} {σ : L2.St} {H : Hp} {Q : VK} {v : V} {ta tb te : TE} {r r' : R2}
theorem z_var {i : Nat} (h : σ[i]? = some (some v)) (q : Q v H) : tVar i σ H Q := ⟨v, h, q⟩
theorem z_c (q : Q v H) : tC v σ H Q := q
theorem z_op (q : ta σ H fun x H1 => tb σ H1 fun y H2 => r x y H2 Q) : tOp r ta tb σ H Q := q
theorem z_un {u : V → Hp → VK → Prop} (q : ta σ H fun x H1 => u x H1 Q) : tUn u ta σ H Q := q
theorem z_neg {i : Int} (q : Q (.int (-i)) H) : zNeg (.int i) H Q := ⟨i, rfl, q⟩
theorem z_add {i j : Int} (q : Q (.int (i + j)) H) : zAdd (.int i) (.int j) H Q := ⟨i, j, rfl, rfl, q⟩
theorem z_sub {i j : Int} (q : Q (.int (i - j)) H) : zSub (.int i) (.int j) H Q := ⟨i, j, rfl, rfl, q⟩
theorem z_mul {i j : Int} (c : IntMulOk i j) (q : Q (.int (i * j)) H) : zMul (.int i) (.int j) H Q := ⟨i, j, rfl, rfl, c, q⟩
theorem z_mulL {i j : Int} (h1 : -18446744073709551616 < i) (h2 : i < 18446744073709551616) (q : Q (.int (i * j)) H) : zMul (.int i) (.int j) H Q := z_mul (CMul.ok (.inl ⟨by simpa using h1, by simpa using h2⟩)) q
theorem z_mulR {i j : Int} (h1 : -18446744073709551616 < j) (h2 : j < 18446744073709551616) (q : Q (.int (i * j)) H) : zMul (.int i) (.int j) H Q := z_mul (CMul.ok (.inr ⟨by simpa using h1, by simpa using h2⟩)) q
theorem z_mulB {i j : Int} {a b : Nat} (ha : Bits a i) (hb : Bits b j) (h0 : 0 < a) (h1 : 0 < b) (h : a + b ≤ 1000000) (q : Q (.int (i * j)) H) : zMul (.int i) (.int j) H Q := z_mul (CMulW.ok (wide_mul ha hb h0 h1 h)) q
theorem z_divN {i j : Int} {b : Nat} (h : j ≠ 0) (hb : Bits b j) (h0 : 0 < b) (h9 : b ≤ 9000) (q : Q (.int (i.fdiv j)) H) : zDiv (.int i) (.int j) H Q := ⟨i, j, rfl, rfl, ⟨h, Nat.lt_of_lt_of_le (PySem.Flt.log2_lt_of h0 hb) h9⟩, q⟩
theorem z_div {i j : Int} {b : Nat} (h : 0 < j) (hb : Bits b j) (h0 : 0 < b) (h9 : b ≤ 9000) (q : Q (.int (i / j)) H) : zDiv (.int i) (.int j) H Q := z_divN (by omega) hb h0 h9 (by rw [Int.fdiv_eq_ediv_of_nonneg i (by omega)]; exact q)
theorem z_divS {i j : Int} (h : 0 < j) (h2 : j < 18446744073709551616) (q : Q (.int (i / j)) H) : zDiv (.int i) (.int j) H Q := z_div (b := 64) h (by unfold Bits; have e : (2 : Nat) ^ 64 = 18446744073709551616 := by decide
                                                                                                                                                      omega) (by decide) (by decide) q
theorem z_mod {i j : Int} (c : 0 < j) (q : Q (.int (i % j)) H) : zMod (.int i) (.int j) H Q := ⟨i, j, rfl, rfl, c, q⟩
theorem z_pow {i j : Int} (c : CPow i j) (q : Q (.int (i ^ j.toNat)) H) : zPow (.int i) (.int j) H Q := ⟨i, j, rfl, rfl, c, q⟩
theorem z_lt {i j : Int} (q : Q (.bl (decide (i < j))) H) : zLt (.int i) (.int j) H Q := ⟨i, j, rfl, rfl, q⟩
theorem z_le {i j : Int} (q : Q (.bl (decide (i ≤ j))) H) : zLe (.int i) (.int j) H Q := ⟨i, j, rfl, rfl, q⟩
theorem z_gt {i j : Int} (q : Q (.bl (decide (j < i))) H) : zGt (.int i) (.int j) H Q := ⟨i, j, rfl, rfl, q⟩
theorem z_ge {i j : Int} (q : Q (.bl (decide (j ≤ i))) H) : zGe (.int i) (.int j) H Q := ⟨i, j, rfl, rfl, q⟩
theorem z_isN {x : V} (q : Q (.bl (decide (x = .non))) H) : zIsN x .non H Q := ⟨rfl, q⟩
theorem z_notN {x : V} (q : Q (.bl (!decide (x = .non))) H) : zNotN x .non H Q := ⟨rfl, q⟩
theorem z_eqI {i j : Int} (q : Q (.bl (decide (i = j))) H) : rEq (.int i) (.int j) H Q := ⟨rfl, by
  have e : decide (V.int i = V.int j) = decide (i = j) := by rw [Bool.eq_iff_iff]; simp
  rw [e]; exact q⟩
theorem z_neI {i j : Int} (q : Q (.bl (!decide (i = j))) H) : rNe (.int i) (.int j) H Q := ⟨rfl, by
  have e : decide (V.int i = V.int j) = decide (i = j) := by rw [Bool.eq_iff_iff]; simp
  rw [e]; exact q⟩
theorem z_inl {x y : V} (q : r x y H Q) : rOr r r' x y H Q := .inl q
theorem z_inr {x y : V} (q : r' x y H Q) : rOr r r' x y H Q := .inr q
theorem z_nil {QA : List V → Hp → Prop} (q : QA [] H) : tNil σ H QA := q
theorem z_cons {tr : TA} {QA : List V → Hp → Prop} (q : ta σ H fun x H1 => tr σ H1 fun xs H2 => QA (x :: xs) H2) : tCons ta tr σ H QA := q
theorem z_call {sp : Sp} {dvs : List V} {W : WX} {t : TA} (q : t σ H fun vs H1 => sp (vs ++ dvs) H1 Q (fun cls d H' => W cls d σ H')) : tCallW sp dvs W t σ H Q := q
theorem z_cb {rc : List V → Hp → VK → Prop} {t : TA} (q : t σ H fun vs H1 => rc vs H1 Q) : tCB rc t σ H Q := q
theorem z_tup {t : TA} (q : t σ H fun xs H1 => xs.length ≤ sizeLine ∧ ∀ p, H1 p = none → Q (.ref p) (upd H1 p (.tup xs))) : tTup t σ H Q := q
theorem z_lst {t : TA} (q : t σ H fun xs H1 => xs.length ≤ sizeLine ∧ ∀ p, H1 p = none → Q (.ref p) (upd H1 p (.lst xs))) : tLst t σ H Q := q
theorem z_if {tt : TT} (q : tt σ H fun c H1 => if c = true then ta σ H1 Q else tb σ H1 Q) : tIf tt ta tb σ H Q := q
theorem z_andV (q : ta σ H fun x H1 => ∃ c, x = .bl c ∧ if c = true then tb σ H1 Q else Q (.bl false) H1) : tAndV ta tb σ H Q := q
theorem z_orV (q : ta σ H fun x H1 => ∃ c, x = .bl c ∧ if c = true then Q (.bl true) H1 else tb σ H1 Q) : tOrV ta tb σ H Q := q
theorem z_notV (q : ta σ H fun x H1 => ∃ c, x = .bl c ∧ Q (.bl (!c)) H1) : tNotV ta σ H Q := q
/- tests -/
variable {QB : Bool → Hp → Prop} {b : Bool} {tt tu : TT}
theorem z_test (q : te σ H fun x H1 => ∃ k, x = .bl k ∧ QB k H1) : tTest te σ H QB := q
theorem z_tb (q : te σ H fun x H1 => ∃ k, x = .bl k ∧ QB k H1) : tB te σ H QB := q
theorem z_bl (q : QB b H) : ∃ k, V.bl b = .bl k ∧ QB k H := ⟨b, rfl, q⟩
theorem z_blI {P : Bool → Prop} (q : P b) : ∃ k, V.bl b = .bl k ∧ P k := ⟨b, rfl, q⟩
theorem z_and (q : tt σ H fun c H1 => if c = true then tu σ H1 QB else QB false H1) : tAnd tt tu σ H QB := q
theorem z_or (q : tt σ H fun c H1 => if c = true then QB true H1 else tu σ H1 QB) : tOr tt tu σ H QB := q
theorem z_not (q : tt σ H fun c H1 => QB (!c) H1) : tNot tt σ H QB := q
/- statements -/
variable {D : Ends} {t u : TS}
theorem z_seq (q : t { D with nx := u D } σ H) : tSeq t u D σ H := q
theorem z_next (q : D.nx σ H) : tNext D σ H := q
theorem z_asg {i : Nat} (q : te σ H fun x H1 => D.nx (σ.set i (some x)) H1) : tAsg te (gName i) D σ H := q
theorem z_ret (q : te σ H D.rt) : tRet te D σ H := q
theorem z_retN (q : D.rt .non H) : tRetN D σ H := q
theorem z_drop (q : te σ H fun _ H1 => D.nx σ H1) : tDrop te D σ H := q
theorem z_ifS (q : tt σ H fun b H1 => if b = true then t D σ H1 else u D σ H1) : tIfS tt t u D σ H := q
theorem z_par {i j : Nat} {ta : TA} (q : ta σ H fun vs H1 => ∃ v w, vs = [v, w] ∧ D.nx ((σ.set i (some v)).set j (some w)) H1) : tPar i j ta D σ H := q
theorem z_par2 {v w : V} {P : V → V → Prop} (q : P v w) : ∃ v' w', [v, w] = [v', w'] ∧ P v' w' := ⟨v, w, rfl, q⟩
theorem z_nx {n : L2.St → Hp → Prop} {rt : VK} {bk ct : L2.St → Hp → Prop} (q : n σ H) : Ends.nx ⟨n, rt, bk, ct⟩ σ H := q
theorem z_rt {n : L2.St → Hp → Prop} {rt : VK} {bk ct : L2.St → Hp → Prop} (q : rt v H) : Ends.rt ⟨n, rt, bk, ct⟩ v H := q
theorem z_bk {n : L2.St → Hp → Prop} {rt : VK} {bk ct : L2.St → Hp → Prop} (q : bk σ H) : Ends.bk ⟨n, rt, bk, ct⟩ σ H := q
theorem z_ct {n : L2.St → Hp → Prop} {rt : VK} {bk ct : L2.St → Hp → Prop} (q : ct σ H) : Ends.ct ⟨n, rt, bk, ct⟩ σ H := q
theorem z_break (q : D.bk σ H) : tBreak D σ H := q
theorem z_cont (q : D.ct σ H) : tCont D σ H := q
/-- a decided branch -/
theorem z_T {A B : Prop} (h : A) : if true = true then A else B := by rw [if_pos rfl]; exact h
theorem z_F {A B : Prop} (h : B) : if false = true then A else B := by rw [if_neg Bool.false_ne_true]; exact h
theorem z_dT {c : Prop} [Decidable c] {A B : Prop} (hc : c) (h : A) : if decide c = true then A else B := by rw [if_pos (decide_eq_true hc)]; exact h
theorem z_dF {c : Prop} [Decidable c] {A B : Prop} (hc : ¬ c) (h : B) : if decide c = true then A else B := by rw [decide_eq_false hc, if_neg Bool.false_ne_true]; exact h
theorem z_d2 {c : Prop} [Decidable c] {A B : Prop} (h1 : c → A) (h2 : ¬ c → B) : if decide c = true then A else B := by
  by_cases h : c
  · exact z_dT h (h1 h)
  · exact z_dF h (h2 h)
theorem z_nT {c : Prop} [Decidable c] {A B : Prop} (hc : ¬ c) (h : A) : if (!decide c) = true then A else B := by rw [decide_eq_false hc]; exact z_T h
theorem z_nF {c : Prop} [Decidable c] {A B : Prop} (hc : c) (h : B) : if (!decide c) = true then A else B := by rw [decide_eq_true hc]; exact z_F h
theorem z_n2 {c : Prop} [Decidable c] {A B : Prop} (h1 : ¬ c → A) (h2 : c → B) : if (!decide c) = true then A else B := by
  by_cases h : c
  · exact z_nF h (h2 h)
  · exact z_nT h (h1 h)
theorem z_b2 {b : Bool} {A B : Prop} (h1 : b = true → A) (h2 : b = false → B) : if b = true then A else B := by
  cases b
  · exact z_F (h2 rfl)
  · exact z_T (h1 rfl)
theorem z_nn {b : Bool} {A B : Prop} (h : if b = true then B else A) : if (!b) = true then A else B := by
  cases b
  · exact z_T (by simpa using h)
  · exact z_F (by simpa using h)
end
end Z

set_option maxHeartbeats 4000000
/-! facts of the text behind the top, read by one look; the law's end -/
namespace Z
open PySem PySem.Spec PyProof.Rows L2
abbrev Frag := PySem.W.Frag
abbrev Chk := Frag → Bool
abbrev SeenZ : Type := Bool × List He.FnW
def seenK (fb : List Chk) (fn : List He.DefD) (K : Frag) : SeenZ := ((fb.all fun c => c K) && fn.all fun d => d.ok K, fn.map fun d => He.fnW K d.at_)
def dueK (fn : List He.DefD) : SeenZ := (true, fn.map He.DefD.val)
def Says (fb : List Chk) (fn : List He.DefD) (K : Frag) : Prop := seenK fb fn K = dueK fn
def seenG (n : Nat) (fb : List Chk) (fn : List He.DefD) (g : Addr → Option Obj) : SeenZ := seenK fb fn (He.frG g (He.asD g n))
def hookZ (n : Nat) (fb : List Chk) (fn : List He.DefD) : PySem.W.Hook where
  α := SeenZ
  val := fun _ => dueK fn
  obs := fun st => seenG n fb fn st.heap.get?
  says := fun _ hp => ∃ K : Frag, K.In hp ∧ Says fb fn K
  keeps := fun _ _ _ ⟨K, hin, c⟩ kp => ⟨K, PySem.W.Frag.In.keeps hin kp, c⟩
  of := fun _ _ eq => ⟨_, He.frG_in, eq⟩
theorem seenG_eq {n : Nat} {fb : List Chk} {fn : List He.DefD} {g : Addr → Option Obj} {st : Shared} (h : ∀ a, g a = st.heap.get? a) : seenG n fb fn g = (hookZ n fb fn).obs st := by
  rw [show g = st.heap.get? from funext h] <;> rfl
section
variable {fb : List Chk} {fn : List He.DefD} {K : Frag}
theorem Says.fact (c : Says fb fn K) (i : Nat) {f : Chk} (h : fb[i]? = some f := by rfl) : f K = true := by
  have q := (He.ba (congrArg (fun z : SeenZ => z.1) c)).1
  exact List.all_eq_true.mp q f (List.mem_of_getElem? h)
theorem Says.def_ (c : Says fb fn K) (i : Nat) {d : He.DefD} (h : fn[i]? = some d := by rfl) : ∃ fd, FunD K d.name d.qual d.params d.body d.scope (d.dvs K) (d.kws K) (He.fAd K d.at_) fd := by
  have q := (He.ba (congrArg (fun z : SeenZ => z.1) c)).2
  have e : fn.map (fun d => He.fnW K d.at_) = fn.map He.DefD.val := congrArg (fun z : SeenZ => z.2) c
  have e2 := congrArg (fun l => l[i]?) e
  simp only [List.getElem?_map, h, Option.map_some] at e2
  exact He.DefD.funD (Option.some.inj e2) (List.all_eq_true.mp q d (List.mem_of_getElem? h))
end
/-- what a law's proof knows of the written part -/
structure Lw0 (fb : List Chk) (fn : List He.DefD) (K : Frag) (mg : Str → Option Value) : Prop where
  at_ : ∃ h : Heap, K.In h ∧ h.Ns mainGlobals mg
  c : Says fb fn K

/-! ### the looks -/
def cGlo (x : Str) : Chk := fun K => (He.Fa.glo x).ok K
def cFree (x : Str) : Chk := fun K => (He.Fa.free x).ok K
def cVal (x : Str) (id : String) : Chk := fun K => He.eqO (PySem.W.nsIn K mainGlobals x) (some (some (.builtin id)))
def cCls (x : Str) : Chk := fun K => (He.Fa.cls x).ok K
def cNo (x f : Str) : Chk := fun K => (He.Fa.noat x f).ok K
def cMeth (x m : Str) : Chk := fun K => (He.Fa.meth x m).ok K
def cMk (x : Str) : Chk := fun K => (He.Fa.mkr x).ok K
def cExc0 (x : Str) : Chk := fun K => (He.Fa.exc x).ok K
def cExm (x y : Str) (b : Bool) : Chk := fun K => (He.Fa.exm x y b).ok K
def cSelf (x : Str) : Chk := fun K => PySem.W.selfFirst K (He.ga K x)
/-- an exception class whose own __init__ is walked -/
def oexB (K : Frag) (C : Addr) : Bool := match K.lookup C with
  | some ⟨.type t, _, .cls cd, sl⟩ => (match cd.mro, sl.toList with
    | .ref C' :: bm, [_, _, _, _, some (.builtin n), _] => decide (t = "type") && (decide (C' = C) && (decide (n = "ValueError.__new__") && (!cd.hasDel && (cd.hasDict && PySem.HandSPX.refsVE bm))))
    | _, _ => false)
  | _ => false
theorem oexB_ok {K : Frag} {C : Addr} (h : oexB K C = true) : ∃ nm q N bs bm sn sub ab col dd k0 k1 k2 k3 k5, K.lookup C = some (excClassObj nm q C N bs bm true sn sub ab col dd k0 k1 k2 k3 k5 "ValueError.__new__") ∧ PySem.HandSPX.refsVE bm = true := by
  unfold oexB at h
  split at h
  · rename_i t dd cd sl ho
    split at h
    · rename_i C' bm k0 k1 k2 k3 n k5 hm hs
      obtain ⟨h1, h⟩ := He.ba h
      obtain ⟨h2, h⟩ := He.ba h
      obtain ⟨h3, h⟩ := He.ba h
      obtain ⟨h4, h⟩ := He.ba h
      obtain ⟨h5, h6⟩ := He.ba h
      have e1 := of_decide_eq_true h1
      have e2 := of_decide_eq_true h2
      have e3 := of_decide_eq_true h3
      obtain ⟨nm, bs, mro, ns, qn, hd, sn, sub, ab, col, del⟩ := cd
      have e4 : del = false := by simpa using h4
      have e5 : hd = true := h5
      dsimp only at hm
      subst hm e4 e5 e1 e2 e3
      have hsl : sl = #[k0, k1, k2, k3, some (.builtin "ValueError.__new__"), k5] := by
        obtain ⟨l⟩ := sl
        simp only at hs
        rw [hs]
      subst hsl
      exact ⟨nm, qn, ns, bs, bm, sn, sub, ab, col, dd, k0, k1, k2, k3, k5, ho, h6⟩
    · cases h
  · cases h
def cOex (x : Str) : Chk := fun K => oexB K (He.ga K x) && (He.eqO (PySem.W.findIn K (.ref (He.ga K x)) "__setattr__") (some (some (.builtin "object.__setattr__"))) && (decide (PySem.W.subIn K (.ref (He.ga K x)) (.type "BaseException") = some true) &&
  (decide (PySem.W.typeIn K (.ref (He.ga K x)) = some (.type "type")) && (PySem.W.keepIn K (.ref (He.ga K x)) && (He.eqO (PySem.W.findIn K (.ref (He.ga K x)) "__init__") (some (some (.ref (He.ma K (He.ga K x) "__init__")))) && decide (PySem.W.typeIn K (.ref (He.ma K (He.ga K x) "__init__")) = some (.type "function")))))))
theorem oex_ok {K : Frag} {x : Str} (h : cOex x K = true) : OexC K (He.ga K x) ∧ PySem.W.findIn K (.ref (He.ga K x)) "__init__" = some (some (.ref (He.ma K (He.ga K x) "__init__"))) ∧ PySem.W.typeIn K (.ref (He.ma K (He.ga K x) "__init__")) = some (.type "function") := by
  obtain ⟨h1, h⟩ := He.ba h
  obtain ⟨h2, h⟩ := He.ba h
  obtain ⟨h3, h⟩ := He.ba h
  obtain ⟨h4, h⟩ := He.ba h
  obtain ⟨h5, h⟩ := He.ba h
  obtain ⟨h6, h7⟩ := He.ba h
  exact ⟨⟨oexB_ok h1, He.eqO_ok h2, of_decide_eq_true h3, of_decide_eq_true h4, h5⟩, He.eqO_ok h6, of_decide_eq_true h7⟩
/-- an exception of this class caught: its fields, isinstance -/
def cExcC (x : Str) : Chk := fun K => He.eqO (PySem.W.findIn K (.ref (He.ga K x)) "__getattribute__") (some (some (.builtin "BaseException.__getattribute__"))) && (He.eqO (PySem.W.findIn K (.ref (He.ga K x)) "__getattr__") (some none) && (decide (PySem.W.subIn K (.ref (He.ga K x)) (.type "BaseException") = some true) &&
  (PySem.W.hasDictIn K (He.ga K x) && (He.eqO (PySem.W.findIn K (.ref (He.ga K x)) "__class__") (some (some (.builtin "object.__class__"))) && (decide (PySem.W.specialIn K (.builtin "object.__class__") "__get__" = some (some (.builtin "getset_descriptor.__get__"))) &&
  (decide (PySem.W.takesIn K (.builtin "object.__class__") = some true) && decide (PySem.W.mroIn K (He.ga K x) (.type "object") = some true)))))))
theorem excC_ok {K : Frag} {x : Str} (h : cExcC x K = true) : ExcC K (He.ga K x) := by
  obtain ⟨h1, h⟩ := He.ba h
  obtain ⟨h2, h⟩ := He.ba h
  obtain ⟨h3, h⟩ := He.ba h
  obtain ⟨h4, h⟩ := He.ba h
  obtain ⟨h5, h⟩ := He.ba h
  obtain ⟨h6, h⟩ := He.ba h
  obtain ⟨h7, h8⟩ := He.ba h
  exact ⟨He.eqO_ok h1, He.eqO_ok h2, of_decide_eq_true h3, h4, He.eqO_ok h5, of_decide_eq_true h6, of_decide_eq_true h7, of_decide_eq_true h8⟩
theorem _root_.L2.ExcC.xf {K : Frag} {C : Addr} (c : ExcC K C) : XfC K C := ⟨c.hg, c.hk, c.hs, c.hd⟩
/-- isinstance of an instance of this class -/
structure InsK (K : Frag) (C : Addr) : Prop where
  cl : Cls K C
  ha : PySem.W.findIn K (.ref C) "__class__" = some (some (.builtin "object.__class__"))
  hn : PySem.W.specialIn K (.builtin "object.__class__") "__get__" = some (some (.builtin "getset_descriptor.__get__"))
  ht : PySem.W.takesIn K (.builtin "object.__class__") = some true
  hm : PySem.W.mroIn K C (.type "object") = some true
theorem InsK.ty {K : Frag} {C a dx : Addr} {fs : List (Str × V)} {H : Hp} (c : InsK K C) (h : H a = some (.ins C dx fs)) : TyX K H (.ref a) (.ref C) := .base (.ins h c.cl c.ha c.hn c.ht c.hm)
def cIns (x : Str) : Chk := fun K => (He.Fa.cls x).ok K && (He.eqO (PySem.W.findIn K (.ref (He.ga K x)) "__class__") (some (some (.builtin "object.__class__"))) && (decide (PySem.W.specialIn K (.builtin "object.__class__") "__get__" = some (some (.builtin "getset_descriptor.__get__"))) &&
  (decide (PySem.W.takesIn K (.builtin "object.__class__") = some true) && decide (PySem.W.mroIn K (He.ga K x) (.type "object") = some true))))
theorem insK_ok {K : Frag} {x : Str} (h : cIns x K = true) : InsK K (He.ga K x) := by
  obtain ⟨h1, h⟩ := He.ba h
  obtain ⟨h5, h⟩ := He.ba h
  obtain ⟨h6, h⟩ := He.ba h
  obtain ⟨h7, h8⟩ := He.ba h
  exact ⟨He.cls_ok h1, He.eqO_ok h5, of_decide_eq_true h6, of_decide_eq_true h7, of_decide_eq_true h8⟩
/-- isinstance's answer for an instance of x asked for the class y; for a value of the built-in type t asked for y; for an instance of x asked for the built-in type t -/
def cKit (x y : Str) (b : Bool) : Chk := fun K => decide (PySem.W.kitOne K (.ref (He.ga K x)) (.ref (He.ga K y)) = some b)
def cKitT (t : String) (y : Str) (b : Bool) : Chk := fun K => decide (PySem.W.kitOne K (.type t) (.ref (He.ga K y)) = some b)
def cKitU (x : Str) (t : String) (b : Bool) : Chk := fun K => decide (PySem.W.kitOne K (.ref (He.ga K x)) (.type t) = some b)

/-! ### isinstance of a caught exception -/
def rIsX (K : Frag) (D : Addr) (a : Addr) : List V → Hp → VK → Prop := fun xs H Q => ∃ (c : V) (cv : Value) (b : Bool), xs = [.ref a, c] ∧ ClsV c cv ∧ PySem.W.kitOne K (.ref D) cv = some b ∧ Q (.bl b) H
/-- the caught one's class is D, its dict none or a tracked one -/
theorem call_isEx {X : Cx} {a D : Addr} {oe : Obj} {cls : Value} {d : Option Addr} {pn : List (Addr × Obj)} (C : ExcC X.K D) (hz : Zc cls d oe) (hf : ∃ vs, oe.data = .fields vs) :
    CallR (X.suite a ((a, oe) :: pn)) (.builtin "isinstance") (fun xs H Q => cls = .ref D ∧ (∀ dd, d = some dd → ∃ fs, H dd = some (.xd fs)) ∧ rIsX X.K D a xs H Q) := by
  intro pi s0 sl H0 xs us Q0 J r h0
  obtain ⟨ec, hd, c, cv, b, rfl, kc, e, q⟩ := h0
  obtain ⟨u1, u2, rfl, r1, r2⟩ := vals2 r
  obtain rfl : u1 = Value.ref a := r1
  have e2 := kc.eq r2
  subst e2
  subst ec
  obtain ⟨hget, _⟩ := J.pin (a, oe) (List.mem_append_left _ List.mem_cons_self)
  obtain ⟨vs, hv⟩ := hf
  have nc : PySem.W.notCls oe := by unfold PySem.W.notCls; rw [hv] <;> rfl
  have inst : ∃ od, PySem.W.InstAt s0.heap a oe D od := by
    cases d with
    | none => exact ⟨none, hget, hz.1, nc, by rw [hz.2]; trivial⟩
    | some dd =>
      obtain ⟨fs, hx⟩ := hd dd rfl
      have ox : ObjOk X.prog X.w H0 s0.heap dd (.xd fs) := J.hok dd _ hx
      obtain ⟨mA, hns, _⟩ := ox
      obtain ⟨od, ho, _⟩ := lookIn_ns hns
      exact ⟨some od, hget, hz.1, nc, by rw [hz.2]; exact ho⟩
  obtain ⟨od, I0⟩ := inst
  have hcl : (PySem.W.clsIn X.K D).isSome = true := by
    obtain ⟨cdD, hcD, _⟩ := PySem.W.any_some C.hd
    rw [hcD] <;> rfl
  exact PySem.W.kia_one (PySem.W.kitx_exc hcl C.hg C.hk C.hs C.ha C.hn C.ht C.hm) J.kIn I0 e (fun z => nomatch z) fun tk => ⟨.bl b, H0, J.kept (t' := tk) fun _ _ z => z, rfl, q⟩

/-! ### calls within an except suite -/
section
variable {X : Cx} {k j : Nat} {sp : Sp} {x : Str} {p pos : Pos} {e : Expr} {es : List Expr} {t : TA}
theorem takesF {X : Cx} : L2N.Takes X (fun _ _ _ _ => False) := fun _ _ ⟨_, _, _, _, _, _, _, _, _, _, _, _, _, _, _, _, z⟩ => z.elim
theorem pe_ch (c : CalH X.prog X.w X.K X.mg X.base k x sp) (hr : L2H.RoomH j X.A) (hk : k ≤ j) (hot : L2H.HotC X) (ha : PA X (e :: es) t) (hg : Gl X x := by rfl)
    (hdb : (x == ("__debug__" : Str)) = false := by decide) (he : starEach (e :: es) X.env = (false, eval e X.env) :: starEach es X.env := by rfl) (hpl : (backTo pos (starEach es X.env)).any (·.1) = false := by rfl) :
    PE X (.Call (.Name x p) (e :: es) [] pos) (tCallW sp [] (fun _ _ _ _ => False) t) := by
  obtain ⟨f, fd, ps, F, hm, kp, b⟩ := c.ex
  have h := L2H.pe_callH (E := fun _ _ _ _ => False) F (hr.mono hk) hot hg hm kp b (fun σ => L2N.passAt takesF σ) ha (q := p) hdb he hpl
  refine ⟨fun pi s0 sl H0 Q0 J h0 => h.run pi s0 sl H0 Q0 J ?_⟩
  have e1 : (tCallW sp [] (fun _ _ _ _ => False) t) = L2.tCallS sp (fun _ _ _ _ => False) t := by
    unfold tCallW L2.tCallS
    funext σ H Q
    simp only [List.append_nil]
  rw [← e1]
  exact h0
end

/-! ### names of types and classes as values -/
theorem pe_ty {X : Cx} {x : Str} {pos : Pos} (n : String) (hg : Gl X x) (hm : X.mg x = none) (hv : bootBuiltins x = some (.type n)) (hn : x ≠ "__name__" := by decide) (hd : (x == ("__debug__" : Str)) = false := by decide) : PE X (.Name x pos) (tC (.ty n)) :=
  pe_bltn (v := .ty n) (u := .type n) hg hm hv rfl hn hd
theorem pe_cls {X : Cx} {x : Str} {pos : Pos} {a : Addr} (hm : X.mg x = some (.ref a)) (hg : Gl X x := by rfl) (hd : (x == ("__debug__" : Str)) = false := by decide) : PE X (.Name x pos) (tC (.ref a)) :=
  pe_glob (v := .ref a) (u := .ref a) hg hm rfl hd

/-! ### promises by the number of arguments -/
abbrev F1 := V → Hp → VK → XK → Prop
abbrev F2 := V → V → Hp → VK → XK → Prop
abbrev F3 := V → V → V → Hp → VK → XK → Prop
abbrev F4 := V → V → V → V → Hp → VK → XK → Prop
abbrev F5 := V → V → V → V → V → Hp → VK → XK → Prop
abbrev F6 := V → V → V → V → V → V → Hp → VK → XK → Prop
def sp0 (f : Hp → VK → XK → Prop) : Sp := fun vs H Q E => vs = [] ∧ f H Q E
def sp1 (f : F1) : Sp := fun vs H Q E => ∃ a, vs = [a] ∧ f a H Q E
def sp2 (f : F2) : Sp := fun vs H Q E => ∃ a b, vs = [a, b] ∧ f a b H Q E
def sp3 (f : F3) : Sp := fun vs H Q E => ∃ a b c, vs = [a, b, c] ∧ f a b c H Q E
def sp4 (f : F4) : Sp := fun vs H Q E => ∃ a b c d, vs = [a, b, c, d] ∧ f a b c d H Q E
def sp5 (f : F5) : Sp := fun vs H Q E => ∃ a b c d e, vs = [a, b, c, d, e] ∧ f a b c d e H Q E
def sp6 (f : F6) : Sp := fun vs H Q E => ∃ a b c d e g, vs = [a, b, c, d, e, g] ∧ f a b c d e g H Q E
section
variable {H : Hp} {Q : VK} {E : XK} {a b c d e g : V} {vs : List V}
theorem len0 {f : Hp → VK → XK → Prop} : ∀ vs H Q E, sp0 f vs H Q E → vs.length = 0 := by rintro _ _ _ _ ⟨rfl, _⟩; rfl
theorem len1 {f : F1} : ∀ vs H Q E, sp1 f vs H Q E → vs.length = 1 := by rintro _ _ _ _ ⟨_, rfl, _⟩; rfl
theorem len2 {f : F2} : ∀ vs H Q E, sp2 f vs H Q E → vs.length = 2 := by rintro _ _ _ _ ⟨_, _, rfl, _⟩; rfl
theorem len3 {f : F3} : ∀ vs H Q E, sp3 f vs H Q E → vs.length = 3 := by rintro _ _ _ _ ⟨_, _, _, rfl, _⟩; rfl
theorem len4 {f : F4} : ∀ vs H Q E, sp4 f vs H Q E → vs.length = 4 := by rintro _ _ _ _ ⟨_, _, _, _, rfl, _⟩; rfl
theorem len5 {f : F5} : ∀ vs H Q E, sp5 f vs H Q E → vs.length = 5 := by rintro _ _ _ _ ⟨_, _, _, _, _, rfl, _⟩; rfl
theorem len6 {f : F6} : ∀ vs H Q E, sp6 f vs H Q E → vs.length = 6 := by rintro _ _ _ _ ⟨_, _, _, _, _, _, rfl, _⟩; rfl
theorem z_sp0 {f : Hp → VK → XK → Prop} (h : f H Q E) : sp0 f [] H Q E := ⟨rfl, h⟩
theorem z_sp1 {f : F1} (h : f a H Q E) : sp1 f [a] H Q E := ⟨_, rfl, h⟩
theorem z_sp2 {f : F2} (h : f a b H Q E) : sp2 f [a, b] H Q E := ⟨_, _, rfl, h⟩
theorem z_sp3 {f : F3} (h : f a b c H Q E) : sp3 f [a, b, c] H Q E := ⟨_, _, _, rfl, h⟩
theorem z_sp4 {f : F4} (h : f a b c d H Q E) : sp4 f [a, b, c, d] H Q E := ⟨_, _, _, _, rfl, h⟩
theorem z_sp5 {f : F5} (h : f a b c d e H Q E) : sp5 f [a, b, c, d, e] H Q E := ⟨_, _, _, _, _, rfl, h⟩
theorem z_sp6 {f : F6} (h : f a b c d e g H Q E) : sp6 f [a, b, c, d, e, g] H Q E := ⟨_, _, _, _, _, _, rfl, h⟩
/- .. behind a call's written arguments -/
theorem z_sq0 {sp : Sp} (h : sp vs H Q E) : sp (vs ++ []) H Q E := by rw [List.append_nil]; exact h
theorem z_sq1 {sp : Sp} (h : sp (a :: vs) H Q E) : sp (a :: (vs ++ [])) H Q E := by rw [List.append_nil]; exact h
end

/-- nothing leaves the law -/
theorem noCX {P : Program} {w : World} (H : Hp) (s : Shared) (e : Value) (s' : Shared) (h : L2N.CX P w [] H s (fun _ _ _ => False) e s') : False := by
  obtain ⟨_, _, _, _, _, _, _, _, _, _, _, _, z⟩ := h
  exact z.elim
end Z
namespace Z
open PySem PySem.Spec PyProof.Rows L2
/-- a def of which nothing is raised -/
theorem fn_quiet {P : Program} {w : World} {K : Frag} {mg : Str → Option Value} {base : Heap} {k : Nat} {f : Addr} {fd : FuncData} {ps : List Str} {sp : Sp} (F : FnOk P w K mg base (L2N.CX P w) k f fd ps sp) (hs : ∀ vs H Q E, sp vs H Q E → sp vs H Q (fun _ _ _ => False)) :
    FnOk P w K mg base L2.CX0 k f fd ps sp :=
  ⟨F.len, fun A outer s H args us vs Q E hr he hb hv h => codeAny_mono (F.run A outer s H args us vs Q _ hr he hb hv (hs _ _ _ _ h)) fun r s1 q => by
    match r, q with
    | .ok (.ret u), q => exact q
    | .error e, q =>
      obtain ⟨_, _, _, _, _, _, _, _, _, _, _, _, z⟩ := q
      exact z.elim⟩
def spLaw (K : Frag) : Sp := fun vs H Q _ => ∃ (a : Addr) (ns : List Int), vs = [.ref a] ∧ SqL K H a (ns.map V.int) ∧ ns.length ≤ 63 ∧ ∀ H', Q (.bl true) H'
end Z

set_option maxHeartbeats 4000000
/-! what is carried from heap to heap; calls of built-ins, step by step -/
namespace Z
open PySem PySem.Spec PyProof.Rows L2
section
variable {K : Frag} {H H' H1 H2 : Hp} {Q : VK} {a : Addr} {xs : List V} {o : HO}
theorem Same.at (e : Same H H') (h : H a = some o) : H' a = some o := e a o h
theorem Same.new {p : Addr} (h : H p = none) : Same H (upd H p o) := fun b u hb => by rw [upd_ne (ne_of_none hb h)]; exact hb
theorem z_ixT {p : Addr} {i : Int} {v : V} (h : H p = some (.tup xs)) (e : atI xs i = some v) (q : Q v H) : rIx K (.ref p) (.int i) H Q := .inr (.inl ⟨p, xs, i, v, rfl, rfl, SqT.of h, e, q⟩)
theorem z_ixL {p : Addr} {i : Int} {v : V} (h : SqL K H p xs) (e : atI xs i = some v) (q : Q v H) : rIx K (.ref p) (.int i) H Q := .inl ⟨p, xs, i, v, rfl, rfl, h, e, q⟩
theorem z_new {t : List V → HO} {n : Nat} (hn : n ≤ 16777216) (k : ∀ p, H p = none → Same H (upd H p (t xs)) → upd H p (t xs) p = some (t xs) → Q (.ref p) (upd H p (t xs))) : n ≤ sizeLine ∧ ∀ p, H p = none → Q (.ref p) (upd H p (t xs)) :=
  ⟨by rw [sizeLine_eq]; exact hn, fun p hp => k p hp (Same.new hp) upd_same⟩
theorem _root_.L2.Same.step {H H1 H2 : Hp} (e : Same H H1) (h : Same H1 H2) : Same H H2 := e.trans h
/-! named calls of built-ins -/
def rInt1 : List V → Hp → VK → Prop := fun xs H Q => (∃ i, xs = [.int i] ∧ Q (.int i) H) ∨ ∃ k, xs = [.bl k] ∧ Q (.int (if k then 1 else 0)) H
def rAbs1 : List V → Hp → VK → Prop := fun xs H Q => ∃ i, xs = [.int i] ∧ Q (.int (if i < 0 then -i else i)) H
def rLen1 (K : Frag) : List V → Hp → VK → Prop := fun xs H Q => ∃ x n, xs = [x] ∧ LenV K x H n ∧ Q (.int n) H
def rMax2z : List V → Hp → VK → Prop := fun xs H Q => ∃ i j, xs = [.int i, .int j] ∧ Q (.int (if j > i then j else i)) H
def rMin2z : List V → Hp → VK → Prop := fun xs H Q => ∃ i j, xs = [.int i, .int j] ∧ Q (.int (if j < i then j else i)) H
theorem z_int1 {n : Int} (q : Q (.int n) H) : rInt1 [.int n] H Q := .inl ⟨n, rfl, q⟩
theorem z_intb {b : Bool} (q : Q (.int (if b then 1 else 0)) H) : rInt1 [.bl b] H Q := .inr ⟨b, rfl, q⟩
theorem z_abs {n : Int} (q : Q (.int (n.natAbs : Int)) H) : rAbs1 [.int n] H Q := ⟨n, rfl, by
  have e : (if n < 0 then -n else n) = (n.natAbs : Int) := by split <;> omega
  rw [e]; exact q⟩
theorem z_lenL {p : Addr} (h : SqL K H p xs) (q : Q (.int (xs.length : Int)) H) : rLen1 K [.ref p] H Q := ⟨_, _, rfl, .inl ⟨xs, h, rfl⟩, q⟩
theorem z_lenT {p : Addr} (h : H p = some (.tup xs)) (q : Q (.int (xs.length : Int)) H) : rLen1 K [.ref p] H Q := ⟨_, _, rfl, .inr ⟨xs, SqT.of h, rfl⟩, q⟩
theorem z_max2 {i j : Int} (q : Q (.int (max i j)) H) : rMax2z [.int i, .int j] H Q := ⟨i, j, rfl, by
  have e : (if j > i then j else i) = max i j := by rw [Int.max_def]; split <;> split <;> omega
  rw [e]; exact q⟩
theorem z_min2 {i j : Int} (q : Q (.int (min i j)) H) : rMin2z [.int i, .int j] H Q := ⟨i, j, rfl, by
  have e : (if j < i then j else i) = min i j := by rw [Int.min_def]; split <;> split <;> omega
  rw [e]; exact q⟩
theorem z_gcd {i j : Int} (q : Q (.int (Int.gcd i j : Nat)) H) : rGcd [.int i, .int j] H Q := ⟨i, j, rfl, q⟩
theorem z_isi {x c : V} {t u : Value} {b : Bool} (hc : ClsV c u) (ht : TyX K H x t) (hk : PySem.W.kitOne K t u = some b) (q : Q (.bl b) H) : rIsi K [x, c] H Q := ⟨x, c, t, u, b, rfl, hc, ht, hk, q⟩
theorem z_isiI {n : String} {b : Bool} {i : Int} (hk : kitB "int" n = some b) (q : Q (.bl b) H) : rIsi K [.int i, .ty n] H Q := z_isi (.ty n) (.base (.int i)) (kit_ty hk) q
theorem z_isiB {n : String} {b c : Bool} (hk : kitB "bool" n = some b) (q : Q (.bl b) H) : rIsi K [.bl c, .ty n] H Q := z_isi (.ty n) (.base (.bl c)) (kit_ty hk) q
theorem z_isi_ii {i : Int} (q : Q (.bl true) H) : rIsi K [.int i, .ty "int"] H Q := z_isiI (by decide +kernel) q
theorem z_isi_ib {i : Int} (q : Q (.bl false) H) : rIsi K [.int i, .ty "bool"] H Q := z_isiI (by decide +kernel) q
theorem cell_at {ns : List Int} {k : Int} (h0 : 0 ≤ k) (h : k < ((ns.map V.int).length : Int)) : atI (ns.map V.int) k = some (.int (ns.getD k.toNat 0)) := by
  obtain ⟨n, rfl⟩ := Int.eq_ofNat_of_zero_le h0
  have hn : n < ns.length := by
    rw [List.length_map] at h
    omega
  refine atI_nat ?_
  rw [List.getElem?_map, List.getElem?_eq_getElem hn]
  show some (V.int ns[n]) = some (V.int (ns.getD n 0))
  rw [List.getD_eq_getElem?_getD, List.getElem?_eq_getElem hn]
  rfl
theorem cell_out {ns : List Int} {k : Int} (h0 : 0 ≤ k) (h : ¬ k < ((ns.map V.int).length : Int)) : ns.getD k.toNat 0 = 0 := by
  rw [List.length_map] at h
  rw [List.getD_eq_getElem?_getD, List.getElem?_eq_none (by omega)]
  rfl
end
section
variable {X : Cx}
theorem o_int1 : CallR X (.type "int") rInt1 := call_int1
theorem o_abs : CallR X (.builtin "abs") rAbs1 := call_abs
theorem o_len : CallR X (.builtin "len") (rLen1 X.K) := call_len
theorem o_max2 (hc : X.calm = true) : CallR X (.builtin "max") rMax2z := call_max2 hc
theorem o_min2 (hc : X.calm = true) : CallR X (.builtin "min") rMin2z := call_min2 hc
end

/-! ### instances -/
/-- the fields of a Ratio -/
def rF (v w : V) : List (Str × V) := [(("top" : Str), v), (("bottom" : Str), w)]
/-- a Ratio with these fields -/
def IsR (K : Frag) (H : Hp) (a : Addr) (t b : Int) : Prop := ∃ dx, H a = some (.ins (He.ga K "Ratio") dx (rF (.int t) (.int b)))
section
variable {K : Frag} {H H' : Hp} {Q : VK} {a : Addr} {t b : Int} {v w : V}
theorem IsR.mono (e : Same H H') (h : IsR K H a t b) : IsR K H' a t b := h.elim fun dx q => ⟨dx, e _ _ q⟩
theorem tb_ne : ¬ (("top" : Str) = "bottom") := by decide +kernel
theorem bt_ne : ¬ (("bottom" : Str) = "top") := by decide +kernel
theorem rf_top : (rF v w).lookup ("top" : Str) = some v := by
  unfold rF
  rw [lookup_put, if_pos rfl]
theorem rf_bottom : (rF v w).lookup ("bottom" : Str) = some w := by
  unfold rF
  rw [lookup_put, if_neg bt_ne, lookup_put, if_pos rfl]
theorem rf_no {m : Str} (h1 : ¬ m = "top") (h2 : ¬ m = "bottom") : (rF v w).lookup m = none := by
  unfold rF
  rw [lookup_put, if_neg h1, lookup_put, if_neg h2]
  rfl
/-- .. of a name that holds one -/
theorem z_fldt {i : Nat} {p : Addr} {t b : Int} {σ : L2.St} (c : Cls K (He.ga K "Ratio")) (n : NoAttr K (He.ga K "Ratio") "top") (hs : σ[i]? = some (some (.ref p))) (h : IsR K H p t b) (q : Q (.int t) H) : tFld K (tVar i) "top" σ H Q :=
  ⟨_, hs, h.elim fun dx hp => ⟨p, _, dx, _, _, rfl, hp, c, n, rf_top, q⟩⟩
theorem z_fldb {i : Nat} {p : Addr} {t b : Int} {σ : L2.St} (c : Cls K (He.ga K "Ratio")) (n : NoAttr K (He.ga K "Ratio") "bottom") (hs : σ[i]? = some (some (.ref p))) (h : IsR K H p t b) (q : Q (.int b) H) : tFld K (tVar i) "bottom" σ H Q :=
  ⟨_, hs, h.elim fun dx hp => ⟨p, _, dx, _, _, rfl, hp, c, n, rf_bottom, q⟩⟩
end
end Z

set_option maxHeartbeats 4000000
/-! defs within an except suite; exceptions with fields; a Ratio is made -/
namespace Z
open PySem PySem.Spec PyProof.Rows L2
section
variable {P : Program} {w : World} {K : Frag} {mg : Str → Option Value} {base : Heap} {x qual : Str} {params : Arguments} {body : List Stmt} {scope : Scope} {dvs : List V} {kws : List (Str × V)} {f : Addr} {fd : FuncData}
theorem okH {N ps : List Str} {k : Nat} {sp : Sp} (F : FunD K x qual params body scope dvs kws f fd) (S : FnScope N ps scope) (len : ∀ vs H Q E, sp vs H Q E → vs.length = ps.length)
    (hbody : ∀ (cdv : Value) (A : Around) (outer : List Env) (s : Shared) (H : Hp) (vs : List V) (Q : VK) (E : XK) (p : Addr × Obj), L2H.Hot1 (A.deeper (envOfC qual scope s.heap.objs.size f cdv)) p → L2H.RoomH k (A.deeper (envOfC qual scope s.heap.objs.size f cdv)) → sp vs H Q E →
      ∃ t, PSs (L2H.cxH (L2N.CX P w) P w K mg base N qual scope f cdv A outer s H E p) body t ∧ t { nx := fun _ H' => Q .non H', rt := Q } (start N vs) H) : L2H.FnH P w K mg base (L2N.CX P w) (k + 1) f fd ps sp := by
  obtain ⟨oc, od, dV, kV, doc, pm, an, cdv, ct, osl, rfl, lk, hcd, _, _⟩ := F.ex
  exact L2H.fn_ofH lk hcd S len fun A outer s H vs Q E p h1 hr hsp => hbody cdv A outer s H vs Q E p h1 hr hsp
end
theorem hot_suite {X : Cx} {a : Addr} {oe : Obj} {cls : Value} {d : Option Addr} {pn : List (Addr × Obj)} (hz : L2N.Zn cls d oe) (hf : ∃ vs, oe.data = .fields vs) : L2H.HotC (X.suite a ((a, oe) :: pn)) := by
  obtain ⟨vs, hv⟩ := hf
  exact ⟨(a, oe), ⟨rfl, vs, hv, hz.2.2 vs hv⟩, List.mem_cons_self⟩
theorem hot_in {CX : CXT} {P : Program} {w : World} {K : Frag} {mg : Str → Option Value} {base : Heap} {N : List Str} {qual : Str} {scope : Scope} {f : Addr} {cd : Value} {A : Around} {outer : List Env} {s : Shared} {H : Hp} {E : XK} {p : Addr × Obj} (h : L2H.Hot1 (A.deeper (envOfC qual scope s.heap.objs.size f cd)) p) :
    L2H.HotC (L2H.cxH CX P w K mg base N qual scope f cd A outer s H E p) := ⟨p, h, List.mem_cons_self⟩
theorem room_suite {k : Nat} {A : Around} (r : Room k A) (h : Option Value) : L2H.RoomH k (A.mark h) := ⟨r.dp, r.un⟩

/-! ### exceptions with one field, with two -/
def fs_ex1 (K : Frag) (C : Str) (f : Str) : F2 := fun a b H Q _ => ∃ (e : Addr) (H0 : Hp), a = .ref e ∧ H = upd H0 e (exo e (He.ga K C) none) ∧ H0 e = none ∧
  ∀ (d : Addr) (H' : Hp), H' e = some (exo e (He.ga K C) (some d)) → H' d = some (exd d [(f, b)]) → H0 d = none → Same H0 (upd (del H' e) d (.xd [(f, b)])) → Q .non H'
def fs_ex2 (K : Frag) (C : Str) (f g : Str) : F3 := fun a b c H Q _ => ∃ (e : Addr) (H0 : Hp), a = .ref e ∧ H = upd H0 e (exo e (He.ga K C) none) ∧ H0 e = none ∧
  ∀ (d : Addr) (H' : Hp), H' e = some (exo e (He.ga K C) (some d)) → H' d = some (exd d [(g, c), (f, b)]) → H0 d = none → Same H0 (upd (del H' e) d (.xd [(g, c), (f, b)])) → Q .non H'
section
variable {K : Frag} {H : Hp} {Q : XK} {C : Str} {f g : Str} {u v : V} {σ : L2.St}
theorem exo_exd {a C d dx : Addr} {o : Option Addr} {fs : List (Str × V)} {h : Heap} : True := trivial
/-- raise C(v) -/
theorem z_ex1 {ta : TA} (h : ta σ H fun vs H1 => ∃ u, vs = [u] ∧ ∀ (d : Addr) (H' : Hp), Same H1 H' → H' d = some (.xd [(f, u)]) → Q (.ref (He.ga K C)) (some d) H') (mono : ∀ {R R' : List V → Hp → Prop}, (∀ vs H1, R vs H1 → R' vs H1) → ta σ H R → ta σ H R') : tMkO (He.ga K C) (sp2 (fs_ex1 K C f)) [] ta σ H Q := by
  refine mono (fun vs H1 z => ?_) h
  obtain ⟨u, rfl, k⟩ := z
  refine ⟨(by show 1 ≤ 1000; decide), fun a ha => ⟨_, _, rfl, a, H1, rfl, rfl, ha, fun d H' e1 e2 hd s => ⟨rfl, d, _, e1, e2, hd, k d _ s upd_same⟩⟩⟩
theorem z_ex2 {ta : TA} (h : ta σ H fun vs H1 => ∃ u v, vs = [u, v] ∧ ∀ (d : Addr) (H' : Hp), Same H1 H' → H' d = some (.xd [(g, v), (f, u)]) → Q (.ref (He.ga K C)) (some d) H') (mono : ∀ {R R' : List V → Hp → Prop}, (∀ vs H1, R vs H1 → R' vs H1) → ta σ H R → ta σ H R') : tMkO (He.ga K C) (sp3 (fs_ex2 K C f g)) [] ta σ H Q := by
  refine mono (fun vs H1 z => ?_) h
  obtain ⟨u, v, rfl, k⟩ := z
  refine ⟨(by show 2 ≤ 1000; decide), fun a ha => ⟨_, _, _, rfl, a, H1, rfl, rfl, ha, fun d H' e1 e2 hd s => ⟨rfl, d, _, e1, e2, hd, k d _ s upd_same⟩⟩⟩
end
section
variable {K : Frag} {H H0 : Hp} {Q : VK} {E : XK} {C : Str} {f g : Str} {b c : V} {D : Ends} {σ : L2.St}
/-- self.f = b -/
theorem run_ex1 {e : Addr} (T : OexC K (He.ga K C)) (nf : PySem.W.findIn K (.ref (He.ga K C)) f = some none) (h0 : H0 e = none) (s0 : σ[0]? = some (some (.ref e))) (s1 : σ[1]? = some (some b))
    (k : ∀ (d : Addr) (H' : Hp), H' e = some (exo e (He.ga K C) (some d)) → H' d = some (exd d [(f, b)]) → H0 d = none → Same H0 (upd (del H' e) d (.xd [(f, b)])) → D.nx σ H') :
    tOst K f (tVar 0) (tVar 1) D σ (upd H0 e (exo e (He.ga K C) none)) := by
  refine ⟨_, s1, _, s0, e, _, rfl, T, nf, .inl ⟨upd_same, fun d hd ne => ?_⟩⟩
  have hd0 : H0 d = none := by rw [upd_ne ne] at hd; exact hd
  refine k d _ upd_same (by rw [upd_ne ne, upd_same]) hd0 fun x o hx => ?_
  rw [upd_ne (ne_of_none hx hd0), del_ne (ne_of_none hx h0), upd_ne (ne_of_none hx h0), upd_ne (ne_of_none hx hd0), upd_ne (ne_of_none hx h0)]
  exact hx
theorem run_ex2 {e : Addr} (T : OexC K (He.ga K C)) (nf : PySem.W.findIn K (.ref (He.ga K C)) f = some none) (ng : PySem.W.findIn K (.ref (He.ga K C)) g = some none) (h0 : H0 e = none) (s0 : σ[0]? = some (some (.ref e))) (s1 : σ[1]? = some (some b)) (s2 : σ[2]? = some (some c))
    (k : ∀ (d : Addr) (H' : Hp), H' e = some (exo e (He.ga K C) (some d)) → H' d = some (exd d [(g, c), (f, b)]) → H0 d = none → Same H0 (upd (del H' e) d (.xd [(g, c), (f, b)])) → D.nx σ H') :
    tSeq (tOst K f (tVar 0) (tVar 1)) (tOst K g (tVar 0) (tVar 2)) D σ (upd H0 e (exo e (He.ga K C) none)) := by
  refine ⟨_, s1, _, s0, e, _, rfl, T, nf, .inl ⟨upd_same, fun d hd ne => ?_⟩⟩
  have hd0 : H0 d = none := by rw [upd_ne ne] at hd; exact hd
  refine ⟨_, s2, _, s0, e, _, rfl, T, ng, .inr ⟨d, _, upd_same, by rw [upd_ne ne, upd_same], (by show 1 ≤ 900; decide), ?_⟩⟩
  refine k d _ (by rw [upd_ne ne.symm, upd_same]) upd_same hd0 fun x o hx => ?_
  rw [upd_ne (ne_of_none hx hd0), del_ne (ne_of_none hx h0), upd_ne (ne_of_none hx hd0), upd_ne (ne_of_none hx h0), upd_ne (ne_of_none hx hd0), upd_ne (ne_of_none hx h0)]
  exact hx
end

/-! ### a Ratio is made -/
def rc (n d : Int) : Int := if d < 0 then -((Int.gcd n d : Nat) : Int) else ((Int.gcd n d : Nat) : Int)
def rt (n d : Int) : Int := n.fdiv (rc n d)
def rb (n d : Int) : Int := d.fdiv (rc n d)
theorem rc_ne {n d : Int} (h : d ≠ 0) : rc n d ≠ 0 := by
  have : 0 < Int.gcd n d := Int.gcd_pos_of_ne_zero_right n h
  unfold rc
  split <;> omega
theorem rc_bits {n d : Int} {b : Nat} (h : d ≠ 0) (hb : Bits b d) : Bits b (rc n d) := by
  have h1 : Int.gcd n d ≤ d.natAbs := Nat.le_of_dvd (by omega) (by
    show Nat.gcd n.natAbs d.natAbs ∣ d.natAbs
    exact Nat.gcd_dvd_right _ _)
  unfold Bits at *
  unfold rc
  split <;> omega
theorem rt_pos {n d : Int} (h : 0 < d) : rt n d = n / (Int.gcd n d : Nat) ∧ rb n d = d / (Int.gcd n d : Nat) := by
  have e : rc n d = ((Int.gcd n d : Nat) : Int) := by unfold rc; rw [if_neg (by omega)]
  unfold rt rb
  rw [e, Int.fdiv_eq_ediv_of_nonneg _ (by omega), Int.fdiv_eq_ediv_of_nonneg _ (by omega)]
  exact ⟨rfl, rfl⟩
theorem rt_low {n d : Int} (h : 0 < d) (g : Int.gcd n d = 1) : rt n d = n ∧ rb n d = d := by
  obtain ⟨e1, e2⟩ := rt_pos (n := n) h
  rw [e1, e2, g]
  exact ⟨Int.ediv_one n, Int.ediv_one d⟩
theorem rt_spec {n d : Int} (h : 0 < d) : 0 < rb n d ∧ Int.gcd (rt n d) (rb n d) = 1 ∧ rt n d * d = n * rb n d := by
  obtain ⟨e1, e2⟩ := rt_pos (n := n) h
  have g0 : 0 < Int.gcd n d := Int.gcd_pos_of_ne_zero_right n (by omega)
  rw [e1, e2]
  refine ⟨?_, ?_, ?_⟩
  · exact Int.ediv_pos_of_pos_of_dvd h (by omega) (Int.gcd_dvd_right ..)
  · exact Int.gcd_ediv_gcd_ediv_gcd g0
  · obtain ⟨x, ex⟩ := Int.gcd_dvd_left (a := n) (b := d)
    obtain ⟨y, ey⟩ := Int.gcd_dvd_right (a := n) (b := d)
    generalize ((Int.gcd n d : Nat) : Int) = g at *
    have gn : g ≠ 0 := by
      intro z
      subst z
      simp at ey
      omega
    have q1 : n / g = x := by rw [ex, Int.mul_ediv_cancel_left _ gn]
    have q2 : d / g = y := by rw [ey, Int.mul_ediv_cancel_left _ gn]
    rw [q1, q2, ex, ey]
    grind
def fs_rinit (K : Frag) : F3 := fun a b c H Q E => ∃ (x dx : Addr) (H0 : Hp) (n d : Int), a = .ref x ∧ b = .int n ∧ c = .int d ∧ H = upd (upd H0 dx (.own x)) x (.ins (He.ga K "Ratio") dx []) ∧ H0 x = none ∧ H0 dx = none ∧ dx ≠ x ∧ Bits 8999 d ∧
  (d ≠ 0 → ∀ H', Same H0 H' → IsR K H' x (rt n d) (rb n d) → Q .non H') ∧ (d = 0 → ∀ H', Same H0 H' → E (.ref (He.ga K "ZeroBottom")) none H')
section
variable {K : Frag} {H : Hp} {Q : VK} {E : XK}
/-- Ratio(n, d) -/
theorem z_mkR {n d : Int} (hd : d ≠ 0) (hb : Bits 8999 d) (k : ∀ p H', Same H H' → IsR K H' p (rt n d) (rb n d) → Q (.ref p) H') :
    ∀ x dx, H x = none → H dx = none → dx ≠ x → sp3 (fs_rinit K) [.ref x, .int n, .int d] (upd (upd H dx (.own x)) x (.ins (He.ga K "Ratio") dx [])) (fun v H2 => v = .non ∧ Q (.ref x) H2) E :=
  fun x dx hx hdx ne => ⟨_, _, _, rfl, x, dx, H, n, d, rfl, rfl, rfl, rfl, hx, hdx, ne, hb, fun _ H' e r => ⟨rfl, k x H' e r⟩, fun z => absurd z hd⟩
/-- the two stores -/
theorem run_rinit {D : Ends} {σ : L2.St} {x dx : Addr} {H0 : Hp} {C : Addr} {tv tu : TE} {a b : V} (cl : Cls K C) (n1 : NoAttr K C "top") (n2 : NoAttr K C "bottom") (h0 : H0 x = none) (h1 : H0 dx = none) (ne : dx ≠ x) (s0 : σ[0]? = some (some (.ref x)))
    (e1 : ∀ H1, ∀ Q : VK, Q a H1 → tv σ H1 Q) (e2 : ∀ H1, ∀ Q : VK, Q b H1 → tu σ H1 Q) (k : ∀ H', Same H0 H' → H' x = some (.ins C dx (rF a b)) → D.nx σ H') :
    tSeq (sFld K (tVar 0) tv "top") (sFld K (tVar 0) tu "bottom") D σ (upd (upd H0 dx (.own x)) x (.ins C dx [])) := by
  refine e1 _ _ ⟨_, s0, x, C, dx, _, rfl, upd_same, cl, n1, by decide, ?_⟩
  refine e2 _ _ ⟨_, s0, x, C, dx, _, rfl, upd_same, cl, n2, by show 1 < 1000; decide, ?_⟩
  refine k _ (fun y o hy => ?_) ?_
  · rw [upd_ne (ne_of_none hy h0), upd_ne (ne_of_none hy h0), upd_ne (ne_of_none hy h0), upd_ne (ne_of_none hy h1)]
    exact hy
  · rw [upd_same]
    have e : putF "bottom" b (putF "top" a []) = rF a b := by
      show (if ("top" : Str) = "bottom" then _ else (("top" : Str), a) :: putF "bottom" b []) = _
      rw [if_neg tb_ne]
      rfl
    rw [e]
end
end Z
namespace Z
open PySem PySem.Spec PyProof.Rows L2
section
variable {K : Frag} {x qual : Str} {params : Arguments} {body : List Stmt} {scope : Scope} {dvs : List V} {kws : List (Str × V)} {f : Addr} {fd : FuncData} {ps : List Str}
/-- called with keywords in the reversed order, no defaults -/
theorem kbN (F : FunD K x qual params body scope [] kws f fd) (n : Nat) (ks : List Str)
    (h : ∀ (kV doc pm : Value) (an : Option Addr) (cdv ct : Value) (us ws : List Value), us.length = n → ws.length = ks.length → bindArgs (PySem.W.fnOf x qual params body scope .none kV doc pm an cdv ct) ⟨us, ks.zip ws⟩ = pure (ps.zip (us ++ ws.reverse))) :
    KBn K fd ps n ks (fun us ws => us ++ ws.reverse) (fun vs zs => vs ++ zs.reverse) := by
  obtain ⟨oc, od, dV, kV, doc, pm, an, cdv, ct, osl, rfl, lk, hcd, hD, hK⟩ := F.ex
  rcases hD with ⟨_, rfl⟩ | ⟨e, _⟩
  · exact ⟨fun s us ws _ l1 l2 => .of_eq (h kV doc pm an cdv ct us ws l1 l2), fun r1 r2 => r1.append r2.reverse⟩
  · exact absurd rfl e
/-- .. all defaults overruled -/
theorem kbD (F : FunD K x qual params body scope dvs kws f fd) (n : Nat) (ks : List Str) (hd : dvs ≠ [])
    (h : ∀ (T : Addr) (kV doc pm : Value) (an : Option Addr) (cdv ct : Value) (us its ws : List Value), us.length = n → its.length = dvs.length → ws.length = ks.length →
      ∃ k, bindArgs (PySem.W.fnOf x qual params body scope (.ref T) kV doc pm an cdv ct) ⟨us, ks.zip ws⟩ = seqItems? (.ref T) >>= k ∧ k (some its.toArray) = pure (ps.zip (us ++ ws.reverse))) :
    KBn K fd ps n ks (fun us ws => us ++ ws.reverse) (fun vs zs => vs ++ zs.reverse) := by
  obtain ⟨its, h2⟩ := F.kbindsD (ps := ps) n ks (fun us _ ws => us ++ ws.reverse) hd (fun r1 _ r3 => r1.append r3.reverse) h
  exact h2
end
end Z

set_option maxHeartbeats 4000000
/-! more steps of reading: makes, methods, loops over a range, wide products -/
namespace Z
open PySem PySem.Spec PyProof.Rows L2
section
variable {K : Frag} {σ : L2.St} {H : Hp} {Q : VK} {v : V} {ta tb te : TE} {t : TA} {sp : Sp} {dvs : List V} {W : WX} {C : Addr} {m : Str} {E : XK}
/-- a class is made of these values -/
def zMk (C : Addr) (sp : Sp) (dvs : List V) (E : XK) (vs : List V) (H : Hp) (Q : VK) : Prop := ∀ x dx, H x = none → H dx = none → dx ≠ x → sp (.ref x :: (vs ++ dvs)) (upd (upd H dx (.own x)) x (.ins C dx [])) (fun v H2 => v = .non ∧ Q (.ref x) H2) E
theorem z_mk (q : t σ H fun vs H1 => zMk C sp dvs (fun cls d H' => W cls d σ H') vs H1 Q) : tMakeW C sp dvs W t σ H Q := q
/-- a method of this value -/
def zMt (C : Addr) (m : Str) (x : V) (H : Hp) (R : Prop) : Prop := ∃ a dx fs, x = .ref a ∧ H a = some (.ins C dx fs) ∧ fs.lookup m = none ∧ R
theorem z_mt (q : ta σ H fun x H1 => zMt C m x H1 (t σ H1 fun vs H2 => sp (x :: (vs ++ dvs)) H2 Q (fun cls d H' => W cls d σ H'))) : tMethW C m sp dvs W ta t σ H Q := q
theorem z_mtR {p : Addr} {a b : Int} {R : Prop} (h : IsR K H p a b) (q : R) (h1 : ¬ m = "top" := by decide +kernel) (h2 : ¬ m = "bottom" := by decide +kernel) : zMt (He.ga K "Ratio") m (.ref p) H R := h.elim fun dx hp => ⟨p, dx, _, rfl, hp, rf_no h1 h2, q⟩
/-- a sign before a Ratio -/
theorem z_ownN {p : Addr} {a b : Int} {u : V → Hp → VK → Prop} (h : IsR K H p a b) (q : sp [.ref p] H Q E) : rOr1 u (rOwn1 (He.ga K "Ratio") sp E) (.ref p) H Q := .inr (h.elim fun dx hp => ⟨p, dx, _, rfl, hp, q⟩)
theorem z_ownI {i : Int} {u : V → Hp → VK → Prop} (q : u (.int i) H Q) : rOr1 u (rOwn1 C sp E) (.int i) H Q := .inl q
/-- numbers of up to 200 bits -/
theorem bits_of {i : Int} (h1 : -1606938044258990275541962092341162602522202993782792835301376 < i) (h2 : i < 1606938044258990275541962092341162602522202993782792835301376) : Bits 200 i := by
  unfold Bits
  have e : (2 : Nat) ^ 200 = 1606938044258990275541962092341162602522202993782792835301376 := by decide
  omega
theorem bits_up {i : Int} {a b : Nat} (h : Bits a i) (hb : a ≤ b) : Bits b i := Nat.lt_of_lt_of_le h (Nat.pow_le_pow_right (by decide) hb)
theorem z_mulW {i j : Int} (h1 : -1606938044258990275541962092341162602522202993782792835301376 < i) (h2 : i < 1606938044258990275541962092341162602522202993782792835301376) (h3 : -1606938044258990275541962092341162602522202993782792835301376 < j) (h4 : j < 1606938044258990275541962092341162602522202993782792835301376) (q : Q (.int (i * j)) H) : zMul (.int i) (.int j) H Q :=
  z_mulB (bits_of h1 h2) (bits_of h3 h4) (by decide) (by decide) (by decide) q
theorem mulW_ok {i j : Int} (h1 : -1606938044258990275541962092341162602522202993782792835301376 < i) (h2 : i < 1606938044258990275541962092341162602522202993782792835301376) (h3 : -1606938044258990275541962092341162602522202993782792835301376 < j) (h4 : j < 1606938044258990275541962092341162602522202993782792835301376) : IntMulOk i j :=
  CMulW.ok (wide_mul (bits_of h1 h2) (bits_of h3 h4) (by decide) (by decide) (by decide))
theorem z_divW {i j : Int} (h : 0 < j) (h2 : j < 1606938044258990275541962092341162602522202993782792835301376) (q : Q (.int (i / j)) H) : zDiv (.int i) (.int j) H Q := z_div h (bits_of (by omega) h2) (by decide) (by decide) q
theorem z_mkR2 {n d : Int} (hd : d ≠ 0) (h1 : -1606938044258990275541962092341162602522202993782792835301376 < d) (h2 : d < 1606938044258990275541962092341162602522202993782792835301376) (k : ∀ p H', Same H H' → IsR K H' p (rt n d) (rb n d) → Q (.ref p) H') : zMk (He.ga K "Ratio") (sp3 (fs_rinit K)) [] E [.int n, .int d] H Q :=
  z_mkR hd (bits_up (bits_of h1 h2) (by decide)) k
theorem z_mkR1 {n : Int} (k : ∀ p H', Same H H' → IsR K H' p n 1 → Q (.ref p) H') : zMk (He.ga K "Ratio") (sp3 (fs_rinit K)) [.int 1] E [.int n] H Q :=
  z_mkR (n := n) (d := 1) (by decide) (bits_up (bits_of (by decide) (by decide)) (by decide)) fun p H' s h => k p H' s (by
    obtain ⟨e1, e2⟩ := rt_low (n := n) (d := 1) (by decide) (Int.gcd_one_right ..)
    rw [e1, e2] at h
    exact h)
/-- isinstance of a Ratio -/
theorem z_isR {p : Addr} {a b : Int} {C2 : Addr} {c : Bool} (I : InsK K (He.ga K "Ratio")) (hk : PySem.W.kitOne K (.ref (He.ga K "Ratio")) (.ref C2) = some c) (h : IsR K H p a b) (q : Q (.bl c) H) : rIsi K [.ref p, .ref C2] H Q := by
  obtain ⟨dx, hp⟩ := h
  exact z_isi (.own C2) (I.ty hp) hk q
/-- a for loop over a range -/
def zRng (g : TG) (tb : TS) (D : Ends) (σ : L2.St) (a b : Int) (H : Hp) : Prop := (-(2 ^ 62) ≤ a ∧ a < 2 ^ 62 ∧ -(2 ^ 62) ≤ b ∧ b < 2 ^ 62) ∧ ∃ I : Int → L2.St → Hp → Prop, I a σ H ∧
  (∀ x σ H, a ≤ x → x < b → I x σ H → g (.int x) σ H fun σ2 H2 => tb { D with nx := I (x + 1), ct := I (x + 1), bk := D.nx } σ2 H2) ∧ ∀ x σ H, a ≤ x → b ≤ x → (a ≤ b → x = b) → I x σ H → D.nx σ H
theorem z_rng {g : TG} {tb : TS} {D : Ends} {a b : Int} (h : zRng g tb D σ a b H) {J : It} (hJ : J = Itr a (b - a).toNat) : ∃ W : Nat → Nat → L2.St → Hp → Prop, (∃ m, W 0 m σ H) ∧ ∀ i m σ H, W i m σ H →
    (J.stop i H ∧ D.nx σ H) ∨ (J.go i H ∧ ∃ N : L2.St → Hp → Prop, (∀ σ' H', N σ' H' → ∃ m', m' < m ∧ W (i + 1) m' σ' H') ∧ ∀ x H', J.yld i H x H' → g x σ H' fun σ2 H2 => tb { D with nx := N, ct := N, bk := D.nx } σ2 H2) := by
  subst hJ
  obtain ⟨hs, I, h0, h1, h2⟩ := h
  refine ⟨fun i m σ H => I (a + i) σ H ∧ i + m = (b - a).toNat, ⟨(b - a).toNat, by simpa using h0, by omega⟩, fun i m σ H w => ?_⟩
  obtain ⟨w, e⟩ := w
  by_cases c : i < (b - a).toNat
  · refine .inr ⟨c, I (a + i + 1), fun σ' H' z => ⟨m - 1, by omega, ?_, by omega⟩, ?_⟩
    · have e2 : a + ((i + 1 : Nat) : Int) = a + i + 1 := by omega
      rw [e2]
      exact z
    · rintro x H' ⟨rfl, rfl⟩
      exact h1 _ _ _ (by omega) (by omega) w
  · exact .inl ⟨by show (b - a).toNat ≤ i; omega, h2 _ _ _ (by omega) (by omega) (by omega) w⟩
def zRg (g : TG) (tb : TS) (D : Ends) (σ : L2.St) (vs : List V) (H1 : Hp) : Prop := ∃ i j : Int, vs = [.int i, .int j] ∧ (-(2 ^ 62) ≤ i ∧ i < 2 ^ 62 ∧ -(2 ^ 62) ≤ j ∧ j < 2 ^ 62) ∧ ∃ W : Nat → Nat → L2.St → Hp → Prop, (∃ m, W 0 m σ H1) ∧ ∀ k m σ H, W k m σ H →
    ((Itr i (j - i).toNat).stop k H ∧ D.nx σ H) ∨ ((Itr i (j - i).toNat).go k H ∧ ∃ N : L2.St → Hp → Prop, (∀ σ' H', N σ' H' → ∃ m', m' < m ∧ W (k + 1) m' σ' H') ∧ ∀ x H', (Itr i (j - i).toNat).yld k H x H' → g x σ H' fun σ2 H2 => tb { D with nx := N, ct := N, bk := D.nx } σ2 H2)
theorem z_for2 {g : TG} {tb : TS} {D : Ends} (q : t σ H fun vs H1 => zRg g tb D σ vs H1) : tFor (iRng2 t) g tb D σ H := q
theorem z_rg {g : TG} {tb : TS} {D : Ends} {a b : Int} (h : zRng g tb D σ a b H) : zRg g tb D σ [.int a, .int b] H := ⟨a, b, rfl, h.1, z_rng h rfl⟩
/-- an exception with two fields is made -/
def zMkO (C : Addr) (sp : Sp) (dvs : List V) (vs : List V) (H1 : Hp) (Q : XK) : Prop := vs.length ≤ 1000 ∧ ∀ a, H1 a = none → sp (.ref a :: (vs ++ dvs)) (upd H1 a (exo a C none)) (fun v H2 => v = .non ∧ ∃ (d : Addr) (fs : List (Str × V)), H2 a = some (exo a C (some d)) ∧ H2 d = some (exd d fs) ∧ H1 d = none ∧ Q (.ref C) (some d) (upd (del H2 a) d (.xd fs))) (fun _ _ _ => False)
theorem z_mko {Q : XK} (q : t σ H fun vs H1 => zMkO C sp dvs vs H1 Q) : tMkO C sp dvs t σ H Q := q
theorem z_exo2 {c f g : Str} {u v : V} {Q : XK} (k : ∀ (d : Addr) (H' : Hp), Same H H' → H' d = some (.xd [(g, v), (f, u)]) → Q (.ref (He.ga K c)) (some d) H') : zMkO (He.ga K c) (sp3 (fs_ex2 K c f g)) [] [u, v] H Q :=
  ⟨by show 2 ≤ 1000; decide, fun a ha => ⟨_, _, _, rfl, a, H, rfl, rfl, ha, fun d H' e1 e2 hd s => ⟨rfl, d, _, e1, e2, hd, k d _ s upd_same⟩⟩⟩
theorem z_exo1 {c f : Str} {u : V} {Q : XK} (k : ∀ (d : Addr) (H' : Hp), Same H H' → H' d = some (.xd [(f, u)]) → Q (.ref (He.ga K c)) (some d) H') : zMkO (He.ga K c) (sp2 (fs_ex1 K c f)) [] [u] H Q :=
  ⟨by show 1 ≤ 1000; decide, fun a ha => ⟨_, _, rfl, a, H, rfl, rfl, ha, fun d H' e1 e2 hd s => ⟨rfl, d, _, e1, e2, hd, k d _ s upd_same⟩⟩⟩
end
end Z
namespace Z
open PySem PySem.Spec PyProof.Rows L2
section
variable {K : Frag} {σ : L2.St} {H : Hp} {Q : VK} {ta : TE} {t : TA} {g : TG}
theorem z_slL {p : Addr} {xs : List V} {lo hi : Option Int} (h : SqL K H p xs) (q : ∀ r, H r = none → Same H (upd H r (.lst (cutV xs lo hi))) → SqL K (upd H r (.lst (cutV xs lo hi))) r (cutV xs lo hi) → Q (.ref r) (upd H r (.lst (cutV xs lo hi)))) : rSlL K (.ref p) lo hi H Q :=
  ⟨p, xs, rfl, h, fun r hr => q r hr (Same.new hr) (SqL.of upd_same)⟩
/-- a tuple, a list just made -/
theorem z_newT {xs : List V} (hn : xs.length ≤ 16777216) (k : ∀ p, H p = none → Same H (upd H p (.tup xs)) → upd H p (.tup xs) p = some (.tup xs) → Q (.ref p) (upd H p (.tup xs))) : xs.length ≤ sizeLine ∧ ∀ p, H p = none → Q (.ref p) (upd H p (.tup xs)) :=
  z_new (t := .tup) hn k
theorem z_newL {xs : List V} (hn : xs.length ≤ 16777216) (k : ∀ p, H p = none → Same H (upd H p (.lst xs)) → SqL K (upd H p (.lst xs)) p xs → Q (.ref p) (upd H p (.lst xs))) : xs.length ≤ sizeLine ∧ ∀ p, H p = none → Q (.ref p) (upd H p (.lst xs)) :=
  z_new (t := .lst) hn fun p h1 h2 h3 => k p h1 h2 (SqL.of h3)
theorem z_gn {i : Nat} {v : V} {D : L2.St → Hp → Prop} (q : D (σ.set i (some v)) H) : gName i v σ H D := q
theorem z_gcons {u : TGs} {v : V} {vs : List V} {D : L2.St → Hp → Prop} (q : g v σ H fun σ' H' => u vs σ' H' D) : gCons g u (v :: vs) σ H D := ⟨v, vs, rfl, q⟩
theorem z_gnil {D : L2.St → Hp → Prop} (q : D σ H) : gNil [] σ H D := ⟨rfl, q⟩
/-- a tuple taken apart -/
theorem z_gtup {D : L2.St → Hp → Prop} {p : Addr} {xs : List V} {n : Nat} {ts : TGs} (h : H p = some (.tup xs)) (hl : xs.length = n) (q : ts xs σ H D) : gTup K n ts (.ref p) σ H D := ⟨p, xs, rfl, SqT.of h, hl, q⟩
/-- two ends: a tuple of two tuples -/
def IsE (H : Hp) (e : Addr) (lt lb ht hb : Int) : Prop := ∃ a b, H e = some (.tup [.ref a, .ref b]) ∧ H a = some (.tup [.int lt, .int lb]) ∧ H b = some (.tup [.int ht, .int hb])
theorem IsE.mono {H' : Hp} {e : Addr} {lt lb ht hb : Int} (s : Same H H') (h : IsE H e lt lb ht hb) : IsE H' e lt lb ht hb := by
  obtain ⟨a, b, h1, h2, h3⟩ := h
  exact ⟨a, b, s _ _ h1, s _ _ h2, s _ _ h3⟩
def zNewT (xs : List V) (H : Hp) (Q : VK) : Prop := xs.length ≤ sizeLine ∧ ∀ p, H p = none → Q (.ref p) (upd H p (.tup xs))
def zNewL (xs : List V) (H : Hp) (Q : VK) : Prop := xs.length ≤ sizeLine ∧ ∀ p, H p = none → Q (.ref p) (upd H p (.lst xs))
theorem z_tupN (q : t σ H fun xs H1 => zNewT xs H1 Q) : tTup t σ H Q := q
theorem z_lstN (q : t σ H fun xs H1 => zNewL xs H1 Q) : tLst t σ H Q := q
theorem z_asgG {te : TE} {D : Ends} (q : te σ H fun x H1 => g x σ H1 D.nx) : tAsg te g D σ H := q
/-- the new heap under its own name -/
theorem z_nt {xs : List V} (hn : xs.length ≤ 16777216) (k : ∀ p H', H p = none → Same H H' → H' p = some (.tup xs) → Q (.ref p) H') : zNewT xs H Q :=
  z_newT hn fun p h1 h2 h3 => k p _ h1 h2 h3
theorem z_nl {xs : List V} (hn : xs.length ≤ 16777216) (k : ∀ p H', H p = none → Same H H' → SqL K H' p xs → Q (.ref p) H') : zNewL xs H Q :=
  z_newL hn fun p h1 h2 h3 => k p _ h1 h2 h3
end
end Z

set_option maxHeartbeats 4000000
/-! lists just made, powers, keyword calls, caught exceptions, sizes of reduced parts -/
namespace Z
open PySem PySem.Spec PyProof.Rows L2
section
variable {K : Frag} {σ : L2.St} {H : Hp} {Q : VK} {te : TE} {t tk : TA} {sp : Sp} {E : XK}
theorem z_nlR {xs : List V} (hn : xs.length ≤ 16777216) (k : ∀ p H', H p = none → Same H H' → H' p = some (.lst xs) → Q (.ref p) H') : zNewL xs H Q :=
  z_new (t := .lst) hn fun p h1 h2 h3 => k p _ h1 h2 h3
theorem z_p6 (q : Q (.int 1000000) H) : zPow (.int 10) (.int 6) H Q := z_pow ⟨by decide, by decide, by decide⟩ q
theorem z_p12 (q : Q (.int 1000000000000) H) : zPow (.int 10) (.int 12) H Q := z_pow ⟨by decide, by decide, by decide⟩ q
theorem z_p13 (q : Q (.int 10000000000000) H) : zPow (.int 10) (.int 13) H Q := z_pow ⟨by decide, by decide, by decide⟩ q
theorem z_calln {n m : Nat} {gV : List V → List V → List V} (q : t σ H fun vs H1 => tk σ H1 fun zs H2 => vs.length = n ∧ zs.length = m ∧ sp (gV vs zs) H2 Q E) : tCallN n m sp gV E t tk σ H Q := q
/-- a field of the caught exception -/
def zXf (a : Addr) (cls : Value) (d : Option Addr) (C : Addr) (f : Str) (x : V) (H : Hp) (Q : VK) : Prop := x = .ref a ∧ cls = .ref C ∧ ∃ (dd : Addr) (fs : List (Str × V)) (v : V), d = some dd ∧ H dd = some (.xd fs) ∧ fs.lookup f = some v ∧ Q v H
theorem z_xfS {a : Addr} {cls : Value} {d : Option Addr} {C : Addr} {f : Str} (q : te σ H fun x H1 => zXf a cls d C f x H1 Q) : tXf a cls d C f te σ H Q := q
theorem z_xf {a d C : Addr} {f : Str} {fs : List (Str × V)} {v : V} (h : H d = some (.xd fs)) (l : fs.lookup f = some v) (q : Q v H) : zXf a (.ref C) (some d) C f (.ref a) H Q := ⟨rfl, rfl, d, fs, v, rfl, h, l, q⟩
theorem look2a {f g : Str} {u v : V} : ([(g, v), (f, u)] : List (Str × V)).lookup g = some v := by rw [lookup_put, if_pos rfl]
theorem look2b {f g : Str} {u v : V} (h : ¬ f = g := by decide +kernel) : ([(g, v), (f, u)] : List (Str × V)).lookup f = some u := by rw [lookup_put, if_neg h, lookup_put, if_pos rfl]
/-- isinstance of the caught exception -/
theorem z_isX {a d D C : Addr} {fs : List (Str × V)} {b : Bool} (h : H d = some (.xd fs)) (hk : PySem.W.kitOne K (.ref D) (.ref C) = some b) (q : Q (.bl b) H) :
    (.ref D : Value) = .ref D ∧ (∀ dd, some d = some dd → ∃ fs, H dd = some (.xd fs)) ∧ rIsX K D a [.ref a, .ref C] H Q :=
  ⟨rfl, fun dd e => by cases e; exact ⟨fs, h⟩, _, _, b, rfl, .own C, hk, q⟩
/-- a caught exception goes into the clause -/
theorem z_as {cls c : Value} {i : Nat} {ts : Addr → Value → Option Addr → TS} {Wout : WX} {D : Ends} {d : Option Addr} (hk : PySem.W.exmOne K cls c = some true)
    (q : ∀ a, H a = none → ts a cls d { nx := fun σ' H' => D.nx (σ'.set i none) H', rt := D.rt, bk := fun σ' H' => D.bk (σ'.set i none) H', ct := fun σ' H' => D.ct (σ'.set i none) H' } (σ.set i (some (.ref a))) H) : wAs K c i ts Wout D cls d σ H :=
  ⟨true, hk, fun _ => q, fun z => nomatch z⟩
/-! sizes -/
theorem div_bd {n g b : Int} (hg : 1 ≤ g) (h1 : -b ≤ n) (h2 : n ≤ b) (hb : 0 ≤ b) : -b ≤ n / g ∧ n / g ≤ b := by
  have e1 := Int.mul_ediv_self_le (x := n) (k := g) (by omega)
  have e2 := Int.lt_mul_ediv_self_add (x := n) (k := g) (by omega)
  constructor
  · by_cases q : n / g ≥ 0
    · omega
    · have : n ≤ n / g := by
        by_cases p : 0 ≤ n
        · have := Int.ediv_nonneg p (show 0 ≤ g by omega)
          omega
        · have k : n / g * g ≤ n / g * 1 := Int.mul_le_mul_of_nonpos_left (by omega) hg
          have k2 : (n / g + 1) * g > n := by
            have : (n / g + 1) * g = n / g * g + 1 * g := Int.add_mul ..
            have c : g * (n / g) = n / g * g := Int.mul_comm ..
            omega
          by_cases r : n ≤ n / g
          · exact r
          · have k3 : (n / g + 1) * g ≤ (n / g + 1) * 1 := Int.mul_le_mul_of_nonpos_left (by omega) hg
            omega
      omega
  · by_cases p : 0 ≤ n
    · have := Int.ediv_le_self g p
      omega
    · have := Int.ediv_neg_of_neg_of_pos (a := n) (b := g) (by omega) (by omega)
      omega
theorem rt_size {n d b c : Int} (hd : 0 < d) (h1 : -b ≤ n) (h2 : n ≤ b) (hb : 0 ≤ b) (h3 : d ≤ c) : -b ≤ rt n d ∧ rt n d ≤ b ∧ rb n d ≤ c := by
  obtain ⟨e1, e2⟩ := rt_pos (n := n) hd
  have g0 : 0 < Int.gcd n d := Int.gcd_pos_of_ne_zero_right n (by omega)
  obtain ⟨k1, k2⟩ := div_bd (n := n) (g := (Int.gcd n d : Nat)) (by omega) h1 h2 hb
  rw [e1, e2]
  have := Int.ediv_le_self (a := d) (Int.gcd n d : Nat) (by omega)
  omega
end
/-- indexing, the fragment under its own name -/
theorem ix_seqK {X : Cx} {K : Frag} (h : X.K = K) : IxR X (rIx K) := by subst h; exact ix_seq
/-- the law's promise -/
def fs_law (K : Frag) : F1 := fun a H Q _ => ∃ (p : Addr) (ns : List Int), a = .ref p ∧ SqL K H p (ns.map V.int) ∧ ns.length ≤ 63 ∧ ∀ H', Q (.bl true) H'
theorem law_quiet {P : Program} {w : World} {K : Frag} {mg : Str → Option Value} {base : Heap} {j k : Nat} {f : Addr} {fd : FuncData} {ps : List Str} (F : FnOk P w K mg base (L2N.CX P w) j f fd ps (sp1 (fs_law K))) (h : j ≤ k) : FnOk P w K mg base L2.CX0 k f fd ps (sp1 (fs_law K)) :=
  (fn_quiet F fun _ _ _ _ h => h).mono h
theorem cut63 {ns : List Int} (h : ns.length ≤ 63) : cutV (ns.map V.int) none (some 63) = ns.map V.int := by
  have hl : (ns.map V.int).length ≤ 63 := by rw [List.length_map]; exact h
  generalize ns.map V.int = xs at *
  have e : HT.sIx xs.length xs.length (some 63) = xs.length := by
    have q := HT.sIx_nat xs.length xs.length 63
    rw [show ((63 : Nat) : Int) = 63 from rfl] at q
    rw [q]
    omega
  unfold cutV
  rw [e, HT.sIx_none, Nat.sub_zero, List.drop_zero, List.take_length]
section
variable {σ : L2.St} {H : Hp} {Q : VK} {te : TE}
theorem z_sl63 {K : Frag} {p : Addr} {ns : List Int} {i : Nat} (hs : σ[i]? = some (some (.ref p))) (h : SqL K H p (ns.map V.int)) (hl : ns.length ≤ 63) (q : ∀ r H', Same H H' → SqL K H' r (ns.map V.int) → Q (.ref r) H') : tSl (rSlL K) (tVar i) tNoPart (tPart (tC (.int 63))) σ H Q := by
  have e := cut63 hl
  refine ⟨_, hs, 63, rfl, p, _, rfl, h, fun r hr => ?_⟩
  rw [e]
  exact q r _ (Same.new hr) (SqL.of upd_same)
end
end Z

set_option maxHeartbeats 4000000
/-! lists: joined, repeated, stored into, made anew by comprehensions, walked by loops; fields as targets -/
namespace Z
open PySem PySem.Spec PyProof.Rows L2
section
variable {X : Cx}
/-- o.f as one of several targets -/
def gFld (K : Frag) (ta : TE) (f : Str) : TG := fun v σ H Q => ta σ H fun x H1 => ∃ a C dx fs, x = .ref a ∧ H1 a = some (.ins C dx fs) ∧ Cls K C ∧ NoAttr K C f ∧ fs.length < 1000 ∧ Q σ (upd H1 a (.ins C dx (putF f v fs)))
theorem pg_att {o : Expr} {f : Str} {ta : TE} {pos : Pos} (ha : PE X o ta) : PG X (.Attribute o f pos) (gFld X.K ta f) := by
  refine ⟨fun pins s σ H v u Q I r h => ?_⟩
  refine PySem.W.kas_attr (thn (ha.run pins s σ H _ I h) fun ov s2 ⟨x, H2, I2, rx, a, C, dx, fs, ex, ea, c, n, l, q2⟩ => ?_)
  subst ex
  obtain rfl : ov = Value.ref a := rx
  exact setattr_ok I2 ea c n l r fun s3 I3 => ⟨σ, _, I3, q2⟩
def zCat : R2 := rOr zAdd rCat
def zRep : R2 := rOr zMul rRep
theorem o_cat : OpR X (binaryOp .Add) zCat := op_or2 o_add op_cat
theorem o_rep : OpR X (binaryOp .Mult) zRep := op_or2 o_mul op_rep
end
section
variable {K : Frag} {σ : L2.St} {H : Hp} {Q : VK} {a b : Addr} {xs ys : List V}
theorem lkA {f : Str} {v : V} {r : List (Str × V)} : ((f, v) :: r).lookup f = some v := by rw [lookup_put, if_pos rfl]
theorem lkB {f g : Str} {u v : V} {r : List (Str × V)} (h : ¬ f = g) (l : r.lookup f = some v) : ((g, u) :: r).lookup f = some v := by rw [lookup_put, if_neg h]; exact l
theorem pfA {f : Str} {u v : V} {r : List (Str × V)} : putF f v ((f, u) :: r) = (f, v) :: r := by
  show (if f = f then _ else _) = _
  rw [if_pos rfl]
theorem z_catI {i j : Int} (q : Q (.int (i + j)) H) : zCat (.int i) (.int j) H Q := .inl (z_add q)
theorem z_cat (h1 : H a = some (.lst xs)) (h2 : H b = some (.lst ys)) (hn : xs.length + ys.length ≤ 16777216) (k : ∀ p H', H p = none → Same H H' → H' p = some (.lst (xs ++ ys)) → Q (.ref p) H') : zCat (.ref a) (.ref b) H Q :=
  .inr ⟨a, b, xs, ys, rfl, rfl, h1, h2, by rw [sizeLine_eq]; exact hn, fun p hp => k p _ hp (Same.new hp) upd_same⟩
theorem z_repL {i j : Int} (h1 : -18446744073709551616 < i) (h2 : i < 18446744073709551616) (q : Q (.int (i * j)) H) : zRep (.int i) (.int j) H Q := .inl (z_mulL h1 h2 q)
theorem z_repR {i j : Int} (h1 : -18446744073709551616 < j) (h2 : j < 18446744073709551616) (q : Q (.int (i * j)) H) : zRep (.int i) (.int j) H Q := .inl (z_mulR h1 h2 q)
/-- [x] * n -/
theorem z_rep1 {x : V} {n : Int} (h : H a = some (.lst [x])) (h1 : -9223372036854775808 ≤ n) (h2 : n ≤ 16777216) (k : ∀ p H', H p = none → Same H H' → H' p = some (.lst (List.replicate n.toNat x)) → Q (.ref p) H') : zRep (.ref a) (.int n) H Q := by
  refine .inr ⟨a, n, _, rfl, rfl, h, by omega, by omega, ?_, fun p hp => ?_⟩
  · rw [sizeLine_eq]
    show 1 * n.toNat ≤ 16777216
    omega
  · have e : (List.replicate n.toNat [x]).flatten = List.replicate n.toNat x := by simp
    rw [e]
    exact k p _ hp (Same.new hp) upd_same
/-- len, list(), tuple(), any() of a list -/
theorem z_lenLst (h : H a = some (.lst xs)) (q : Q (.int (xs.length : Int)) H) : rLen1 K [.ref a] H Q := z_lenL (SqL.of h) q
def rList1 (K : Frag) : List V → Hp → VK → Prop := fun vs H Q => ∃ p ys, vs = [.ref p] ∧ (SqL K H p ys ∨ SqT K H p ys) ∧ ∀ l, H l = none → Q (.ref l) (upd H l (.lst ys))
theorem z_listL (h : SqL K H a xs) (k : ∀ p H', H p = none → Same H H' → H' p = some (.lst xs) → Q (.ref p) H') : rList1 K [.ref a] H Q := ⟨a, xs, rfl, .inl h, fun p hp => k p _ hp (Same.new hp) upd_same⟩
theorem z_listT (h : H a = some (.tup xs)) (k : ∀ p H', H p = none → Same H H' → H' p = some (.lst xs) → Q (.ref p) H') : rList1 K [.ref a] H Q := ⟨a, xs, rfl, .inr (SqT.of h), fun p hp => k p _ hp (Same.new hp) upd_same⟩
theorem o_list1 {X : Cx} : CallR X (.type "list") (rList1 X.K) := call_list_of
def rTup1 (K : Frag) : List V → Hp → VK → Prop := fun xs H Q => ∃ p ys, xs = [.ref p] ∧ ((SqL K H p ys ∧ ∀ l, H l = none → Q (.ref l) (upd H l (.tup ys))) ∨ (SqT K H p ys ∧ Q (.ref p) H))
theorem z_anyB {bs : List Bool} (h : H a = some (.lst (bs.map V.bl))) (q : Q (.bl (bs.any id)) H) : rAny K [.ref a] H Q := ⟨a, bs, rfl, SqL.of h, q⟩
theorem z_allB {bs : List Bool} (h : H a = some (.lst (bs.map V.bl))) (q : Q (.bl (bs.all id)) H) : rAll K [.ref a] H Q := ⟨a, bs, rfl, SqL.of h, q⟩
theorem z_minL {ns : List Int} (h : H a = some (.lst (ns.map V.int))) (h0 : 0 < ns.length) (q : ∀ m, m ∈ ns → (∀ y, y ∈ ns → m ≤ y) → Q (.int m) H) : rMin K [.ref a] H Q := ⟨a, ns, rfl, SqL.of h, h0, q⟩
/-- a slice of a list -/
theorem z_sll {lo hi : Option Int} (h : H a = some (.lst xs)) (k : ∀ p H', H p = none → Same H H' → H' p = some (.lst (cutV xs lo hi)) → Q (.ref p) H') : rSlL K (.ref a) lo hi H Q := ⟨a, xs, rfl, SqL.of h, fun p hp => k p _ hp (Same.new hp) upd_same⟩
theorem z_tsl {r : V → Option Int → Option Int → Hp → VK → Prop} {te : TE} {tl th : TO} (q : te σ H fun x H1 => tl σ H1 fun l H2 => th σ H2 fun u H3 => r x l u H3 Q) : tSl r te tl th σ H Q := q
theorem z_np {QO : Option Int → Hp → Prop} (q : QO none H) : tNoPart σ H QO := q
theorem z_pt {te : TE} {QO : Option Int → Hp → Prop} (q : te σ H fun x H1 => ∃ i, x = .int i ∧ QO (some i) H1) : tPart te σ H QO := q
theorem z_pti {i : Int} {P : Int → Prop} (q : P i) : ∃ j, V.int i = .int j ∧ P j := ⟨i, rfl, q⟩
theorem cut_hi {n : Nat} {xs : List V} : cutV xs none (some (n : Int)) = xs.take n := by
  unfold cutV
  rw [HT.sIx_nat, HT.sIx_none, Nat.sub_zero, List.drop_zero]
  by_cases h : n ≤ xs.length
  · rw [Nat.min_eq_left h]
  · rw [Nat.min_eq_right (by omega), List.take_length, List.take_of_length_le (by omega)]
theorem cut_lo {n : Nat} {xs : List V} : cutV xs (some (n : Int)) none = xs.drop n := by
  unfold cutV
  rw [HT.sIx_nat, HT.sIx_none]
  by_cases h : n ≤ xs.length
  · rw [Nat.min_eq_left h, List.take_of_length_le (by rw [List.length_drop]; omega)]
  · rw [Nat.min_eq_right (by omega), Nat.sub_self, List.take_zero, List.drop_eq_nil_of_le (by omega)]
/-- a place in a list of numbers -/
theorem at_int {ns : List Int} {k : Int} {v : Int} (h0 : 0 ≤ k) (h : ns[k.toNat]? = some v) : atI (ns.map V.int) k = some (.int v) := by
  obtain ⟨n, rfl⟩ := Int.eq_ofNat_of_zero_le h0
  refine atI_nat ?_
  rw [List.getElem?_map]
  have : ns[n]? = some v := h
  rw [this]
  rfl
end

/-! ### comprehensions -/
section
variable {K : Frag} {σ : L2.St} {H1 : Hp} {Q : VK} {te : TE} {i j : Nat} {t : TA}
/-- what a comprehension's body is to give: the new list at D within -/
def zLc (J : It) (g : TG) (tt : TT) (te : TE) (vs : List Nat) (σ : L2.St) (H1 : Hp) (Q : VK) : Prop := ∀ D, H1 D = none → ∃ W : Nat → Nat → Hp → Prop, (∃ m, W 0 m (upd H1 D (.lst []))) ∧ ∀ i m H, W i m H →
  (J.stop i H ∧ Q (.ref D) H) ∨ (J.go i H ∧ ∃ Nx : Hp → Prop, (∀ H', Nx H' → ∃ m', m' < m ∧ W (i + 1) m' H') ∧ ∀ x H', J.yld i H x H' → g x (wipe σ vs) H' fun σ2 H2 => wipe σ2 vs = wipe σ vs ∧ tt σ2 H2 fun b H3 =>
    if b = true then te σ2 H3 fun y H4 => ∃ acc, H4 D = some (.lst acc) ∧ acc.length < sizeLine ∧ Nx (upd H4 D (.lst (acc ++ [y]))) else Nx H3)
/-- each turn gives f of its number, all that stood stands -/
theorem z_lcF {J : It} {n : Nat} {G : Hp → Prop} {Y : Nat → Hp → V → Hp → Prop} {g : TG} {vs : List Nat} (w : Walk J n G Y) (f : Nat → V) (hn : n ≤ 16777216) (hG : ∀ H', Same H1 H' → G H')
    (hs : ∀ k x H H' (N : VK), k < n → Same H1 H → Y k H x H' → (∀ H4, Same H H4 → N (f k) H4) → g x (wipe σ vs) H' fun σ2 H2 => wipe σ2 vs = wipe σ vs ∧ te σ2 H2 N)
    (k : ∀ D H', H1 D = none → Same H1 H' → H' D = some (.lst ((List.range n).map f)) → Q (.ref D) H') : zLc J g tYes te vs σ H1 Q := fun D hD => by
  refine lc_it w (fun i H => Same H1 H ∧ H D = some (.lst ((List.range i).map f))) ⟨Same.new hD, upd_same⟩ (fun i H hi p => hG H p.1) (fun i x H H' hi p y => ?_) (fun H p => k D H hD p.1 p.2)
  refine hs i x H H' _ hi p.1 y (fun H4 s4 => ?_)
  refine ⟨_, s4 _ _ p.2, ?_, ?_, ?_⟩
  · rw [List.length_map, List.length_range, sizeLine_eq]
    omega
  · intro b o hb
    rw [upd_ne (ne_of_none hb hD)]
    exact s4 _ _ (p.1 _ _ hb)
  · rw [upd_same, List.range_succ, List.map_append]
    rfl
def zLcL (K : Frag) (g : TG) (tt : TT) (te : TE) (vs : List Nat) (σ : L2.St) (x : V) (H1 : Hp) (Q : VK) : Prop := ∃ a, x = .ref a ∧ (∃ xs, SqL K H1 a xs) ∧ zLc (Itl K a) g tt te vs σ H1 Q
theorem z_lcS {g : TG} {tt : TT} {t : TE} {vs : List Nat} (q : t σ H1 fun x H2 => zLcL K g tt te vs σ x H2 Q) : tLc (iList K t) g tt te vs σ H1 Q := q
/-- over a list of numbers: each number's f -/
theorem z_lcI {a : Addr} {ns : List Int} (f : Int → V) {vs : List Nat} (h : H1 a = some (.lst (ns.map V.int))) (hn : ns.length ≤ 16777216)
    (hs : ∀ n H (N : VK), n ∈ ns → Same H1 H → (∀ H4, Same H H4 → N (f n) H4) → wipe ((wipe σ vs).set i (some (.int n))) vs = wipe σ vs ∧ te ((wipe σ vs).set i (some (.int n))) H N)
    (k : ∀ D H', H1 D = none → Same H1 H' → H' D = some (.lst (ns.map f)) → Q (.ref D) H') : zLcL K (gName i) tYes te vs σ (.ref a) H1 Q := by
  refine ⟨a, rfl, ⟨_, SqL.of h⟩, ?_⟩
  have e : (List.range (ns.map V.int).length).map (fun k => f (ns.getD k 0)) = ns.map f := by
    refine List.ext_getElem (by simp) (fun k h1 h2 => ?_)
    have : k < ns.length := by simpa using h2
    simp [List.getD_eq_getElem?_getD, this]
  refine z_lcF (walk_list (K := K) (a := a) (xs := ns.map V.int)) (fun k => f (ns.getD k 0)) (by simpa using hn) (fun H' s => SqL.of (s _ _ h)) (fun k x H H' N hk s y c => ?_) (fun D H' hD s hl => k D H' hD s (e ▸ hl))
  obtain ⟨rfl, hx⟩ := y
  have hk' : k < ns.length := by simpa using hk
  rw [List.getElem?_map, List.getElem?_eq_getElem hk'] at hx
  have hx' : V.int ns[k] = x := Option.some.inj hx
  subst hx'
  have e2 : ns.getD k 0 = ns[k] := by simp [List.getD_eq_getElem?_getD, hk']
  rw [e2] at c
  exact hs _ H' N (List.getElem_mem hk') s c
/-- over a range -/
def zLcR (g : TG) (tt : TT) (te : TE) (vs : List Nat) (σ : L2.St) (xs : List V) (H1 : Hp) (Q : VK) : Prop := ∃ j : Int, xs = [.int j] ∧ -(2 ^ 62) ≤ j ∧ j < 2 ^ 62 ∧ zLc (Itr 0 j.toNat) g tt te vs σ H1 Q
theorem z_lcRS {g : TG} {tt : TT} {t : TA} {vs : List Nat} (q : t σ H1 fun xs H2 => zLcR g tt te vs σ xs H2 Q) : tLc (iRng1 t) g tt te vs σ H1 Q := q
theorem z_lcR {n : Int} (f : Nat → V) {vs : List Nat} (h1 : -4611686018427387904 ≤ n) (h2 : n ≤ 16777216)
    (hs : ∀ (k : Nat) H (N : VK), k < n.toNat → Same H1 H → (∀ H4, Same H H4 → N (f k) H4) → wipe ((wipe σ vs).set i (some (.int k))) vs = wipe σ vs ∧ te ((wipe σ vs).set i (some (.int k))) H N)
    (k : ∀ D H', H1 D = none → Same H1 H' → H' D = some (.lst ((List.range n.toNat).map f)) → Q (.ref D) H') : zLcR (gName i) tYes te vs σ [.int n] H1 Q := by
  refine ⟨n, rfl, by omega, by omega, ?_⟩
  refine z_lcF (walk_range (lo := 0) (n := n.toNat)) f (by omega) (fun _ _ => trivial) (fun k x H H' N hk s y c => ?_) k
  obtain ⟨rfl, rfl⟩ := y
  have e : (0 : Int) + (k : Int) = k := Int.zero_add _
  dsimp only
  rw [e]
  exact hs k H' N hk s c
/-- over two lists of numbers at once -/
def zLcZ (K : Frag) (g : TG) (tt : TT) (te : TE) (vs : List Nat) (σ : L2.St) (xs : List V) (H1 : Hp) (Q : VK) : Prop := ∃ a b ys zs, xs = [.ref a, .ref b] ∧ SqL K H1 a ys ∧ SqL K H1 b zs ∧ zLc (Itz K a b) g tt te vs σ H1 Q
theorem z_lcZS {g : TG} {tt : TT} {t : TA} {vs : List Nat} (q : t σ H1 fun xs H2 => zLcZ K g tt te vs σ xs H2 Q) : tLc (iZip K t) g tt te vs σ H1 Q := q
theorem z_lcZ {a b : Addr} {ns ms : List Int} (f : Int → Int → V) {vs : List Nat} (h1 : H1 a = some (.lst (ns.map V.int))) (h2 : H1 b = some (.lst (ms.map V.int))) (hn : ns.length = ms.length) (hm : ns.length ≤ 16777216)
    (hs : ∀ n m H (N : VK), Same H1 H → (∀ H4, Same H H4 → N (f n m) H4) → wipe (((wipe σ vs).set i (some (.int n))).set j (some (.int m))) vs = wipe σ vs ∧ te (((wipe σ vs).set i (some (.int n))).set j (some (.int m))) H N)
    (k : ∀ D H', H1 D = none → Same H1 H' → H' D = some (.lst (List.zipWith f ns ms)) → Q (.ref D) H') : zLcZ K (gTup K 2 (gCons (gName i) (gCons (gName j) gNil))) tYes te vs σ [.ref a, .ref b] H1 Q := by
  refine ⟨a, b, _, _, rfl, SqL.of h1, SqL.of h2, ?_⟩
  have e : (List.range ns.length).map (fun k => f (ns.getD k 0) (ms.getD k 0)) = List.zipWith f ns ms := by
    refine List.ext_getElem (by simp [hn]) (fun k h1 h2 => ?_)
    have p1 : k < ns.length := by simpa using h1
    have p2 : k < ms.length := by omega
    simp [List.getD_eq_getElem?_getD, p1, p2]
  refine z_lcF (walk_zip (K := K) (a := a) (b := b) (xs := ns.map V.int) (ys := ms.map V.int) (n := ns.length) (by simp; omega)) (fun k => f (ns.getD k 0) (ms.getD k 0)) hm (fun H' s => ⟨SqL.of (s _ _ h1), SqL.of (s _ _ h2)⟩) (fun k x H H' N hk s y c => ?_) (fun D H' hD s hl => k D H' hD s (e ▸ hl))
  obtain ⟨T, u, v, rfl, hT, rfl, hu, hv⟩ := y
  have hk2 : k < ms.length := by omega
  dsimp only at hu hv
  rw [List.getElem?_map, List.getElem?_eq_getElem hk] at hu
  rw [List.getElem?_map, List.getElem?_eq_getElem hk2] at hv
  have hu' : V.int ns[k] = u := Option.some.inj hu
  have hv' : V.int ms[k] = v := Option.some.inj hv
  subst hu' hv'
  have e1 : ns.getD k 0 = ns[k] := by simp [List.getD_eq_getElem?_getD, hk]
  have e2 : ms.getD k 0 = ms[k] := by simp [List.getD_eq_getElem?_getD, hk2]
  rw [e1, e2] at c
  obtain ⟨z1, z2⟩ := hs ns[k] ms[k] (upd H T (.tup [.int ns[k], .int ms[k]])) N (s.trans (Same.new hT)) (fun H4 s4 => c H4 ((Same.new hT).trans s4))
  exact z_gtup upd_same rfl ⟨_, _, rfl, _, _, rfl, rfl, z1, z2⟩
/-- a loop over a list of numbers: I by the turn -/
def zFoL (K : Frag) (g : TG) (tb : TS) (D : Ends) (σ : L2.St) (x : V) (H1 : Hp) : Prop := ∃ a, x = .ref a ∧ (∃ xs, SqL K H1 a xs) ∧ ∃ W : Nat → Nat → L2.St → Hp → Prop, (∃ m, W 0 m σ H1) ∧ ∀ k m σ H, W k m σ H →
    ((Itl K a).stop k H ∧ D.nx σ H) ∨ ((Itl K a).go k H ∧ ∃ N : L2.St → Hp → Prop, (∀ σ' H', N σ' H' → ∃ m', m' < m ∧ W (k + 1) m' σ' H') ∧ ∀ x H', (Itl K a).yld k H x H' → g x σ H' fun σ2 H2 => tb { D with nx := N, ct := N, bk := D.nx } σ2 H2)
theorem z_foS {g : TG} {tb : TS} {D : Ends} {t : TE} (q : t σ H1 fun x H2 => zFoL K g tb D σ x H2) : tFor (iList K t) g tb D σ H1 := q
theorem z_foV {g : TG} {tb : TS} {D : Ends} {a : Addr} {xs : List V} (h : H1 a = some (.lst xs)) (I : Nat → L2.St → Hp → Prop) (h0 : I 0 σ H1) (hl : ∀ k σ H, I k σ H → H a = some (.lst xs))
    (hs : ∀ k x σ H, xs[k]? = some x → I k σ H → g x σ H fun σ2 H2 => tb { D with nx := I (k + 1), ct := I (k + 1), bk := D.nx } σ2 H2) (hd : ∀ σ H, I xs.length σ H → D.nx σ H) : zFoL K g tb D σ (.ref a) H1 :=
  ⟨a, rfl, ⟨_, SqL.of h⟩, for_it (walk_list (K := K) (a := a) (xs := xs)) I h0 (fun k σ H _ p => SqL.of (hl k σ H p)) (fun k x σ H H' _ p y => by
    obtain ⟨rfl, hx⟩ := y
    exact hs k x σ H' hx p) hd⟩
/-- a loop over range(n): I by the turn -/
def zFoR (g : TG) (tb : TS) (D : Ends) (σ : L2.St) (vs : List V) (H1 : Hp) : Prop := ∃ j : Int, vs = [.int j] ∧ -(2 ^ 62) ≤ j ∧ j < 2 ^ 62 ∧ ∃ W : Nat → Nat → L2.St → Hp → Prop, (∃ m, W 0 m σ H1) ∧ ∀ k m σ H, W k m σ H →
    ((Itr 0 j.toNat).stop k H ∧ D.nx σ H) ∨ ((Itr 0 j.toNat).go k H ∧ ∃ N : L2.St → Hp → Prop, (∀ σ' H', N σ' H' → ∃ m', m' < m ∧ W (k + 1) m' σ' H') ∧ ∀ x H', (Itr 0 j.toNat).yld k H x H' → g x σ H' fun σ2 H2 => tb { D with nx := N, ct := N, bk := D.nx } σ2 H2)
theorem z_for1 {g : TG} {tb : TS} {D : Ends} (q : t σ H1 fun vs H2 => zFoR g tb D σ vs H2) : tFor (iRng1 t) g tb D σ H1 := q
theorem z_foR {g : TG} {tb : TS} {D : Ends} {n : Int} (h1 : -4611686018427387904 ≤ n) (h2 : n < 4611686018427387904) (I : Nat → L2.St → Hp → Prop) (h0 : I 0 σ H1)
    (hs : ∀ (k : Nat) σ H, k < n.toNat → I k σ H → g (.int k) σ H fun σ2 H2 => tb { D with nx := I (k + 1), ct := I (k + 1), bk := D.nx } σ2 H2) (hd : ∀ σ H, I n.toNat σ H → D.nx σ H) : zFoR g tb D σ [.int n] H1 :=
  ⟨n, rfl, by omega, by omega, for_it (walk_range (lo := 0) (n := n.toNat)) I h0 (fun _ _ _ _ _ => trivial) (fun k x σ H H' hk p y => by
    obtain ⟨rfl, rfl⟩ := y
    have e : (0 : Int) + (k : Int) = k := Int.zero_add _
    dsimp only
    rw [e]
    exact hs k σ H' hk p) hd⟩
end
/-! rules with the fragment under its own name (within a comprehension its context must not show) -/
section
variable {X : Cx} {K : Frag} {f : Value}
theorem callK (r : Frag → List V → Hp → VK → Prop) (h : X.K = K) (c : CallR X f (r X.K)) : CallR X f (r K) := by subst h; exact c
theorem slK (r : Frag → V → Option Int → Option Int → Hp → VK → Prop) (h : X.K = K) (c : SlR X (r X.K)) : SlR X (r K) := by subst h; exact c
theorem pe_fldK {e : Expr} {ta : TE} {x : Str} {pos : Pos} (h : X.K = K) (he : PE X e ta) (hb : attributeBase e x X.env (eval e X.env) = eval e X.env) : PE X (.Attribute e x pos) (tFld K ta x) := by subst h; exact pe_fld he hb
theorem pi_listK {tg l : Expr} {tl : TE} (h : X.K = K) (hl : PE X l tl) : PI X tg l (iList K tl) := by subst h; exact pi_list hl
theorem pi_tupK {tg l : Expr} {tl : TE} (h : X.K = K) (hl : PE X l tl) : PI X tg l (iTup K tl) := by subst h; exact pi_tup hl
theorem pg_attK {o : Expr} {x : Str} {ta : TE} {pos : Pos} (h : X.K = K) (ha : PE X o ta) : PG X (.Attribute o x pos) (gFld K ta x) := by subst h; exact pg_att ha
theorem piK {tg e : Expr} (w : Frag → TI) (h : X.K = K) (c : PI X tg e (w X.K)) : PI X tg e (w K) := by subst h; exact c
theorem pgK {tg : Expr} (w : Frag → TG) (h : X.K = K) (c : PG X tg (w X.K)) : PG X tg (w K) := by subst h; exact c
end
end Z
namespace Z
open PySem PySem.Spec PyProof.Rows L2
section
variable {K : Frag} {σ : L2.St} {H H' H1 : Hp} {Q : VK} {a p : Addr} {o : HO}
theorem z_isNI {i : Int} (q : Q (.bl false) H) : zIsN (.int i) .non H Q := z_isN (by simpa using q)
theorem z_isNN (q : Q (.bl true) H) : zIsN .non .non H Q := z_isN (by simpa using q)
theorem z_isNb (q : Q (.bl false) H) : zIsN (.ref a) .non H Q := z_isN (by simpa using q)
theorem z_notNI {i : Int} (q : Q (.bl true) H) : zNotN (.int i) .non H Q := z_notN (by simpa using q)
theorem z_notNN (q : Q (.bl false) H) : zNotN .non .non H Q := z_notN (by simpa using q)
theorem z_notNb (q : Q (.bl true) H) : zNotN (.ref a) .non H Q := z_notN (by simpa using q)
/-- o[i] = v -/
theorem z_gsub {to ti : TE} {t : TSet} {v : V} {D : L2.St → Hp → Prop} (q : to σ H fun o H1 => ti σ H1 fun i H2 => t o i v H2 fun H3 => D σ H3) : gSub to ti t v σ H D := q
theorem z_setL {xs : List V} {k : Int} {v : V} {j : Nat} {R : Hp → Prop} (h : H p = some (.lst xs)) (hj : (j : Int) = k) (hl : j < xs.length) (q : R (upd H p (.lst (xs.set j v)))) : rSetL (.ref p) (.int k) v H R := by
  subst hj
  refine ⟨p, xs, _, j, rfl, rfl, h, ?_, q⟩
  unfold ixN
  simp
  omega
/-- all stands but what lies at p -/
def But (p : Addr) (H H' : Hp) : Prop := ∀ a o, a ≠ p → H a = some o → H' a = some o
theorem But.at (e : But p H H') (ne : a ≠ p) (h : H a = some o) : H' a = some o := e a o ne h
theorem But.of (e : Same H H') : But p H H' := fun a o _ h => e a o h
theorem But.trans (e : But p H H1) (f : But p H1 H') : But p H H' := fun a o ne h => f a o ne (e a o ne h)
theorem But.set : But p H (upd H p o) := fun a _ ne h => by rw [upd_ne ne]; exact h
/-- a list of numbers -/
def IsPool (H : Hp) (p : Addr) : Prop := ∃ ns : List Int, H p = some (.lst (ns.map V.int))
theorem IsPool.mono (e : Same H H') (h : IsPool H p) : IsPool H' p := h.elim fun ns q => ⟨ns, e _ _ q⟩
theorem set_int {ns : List Int} {j : Nat} {v : Int} : (ns.map V.int).set j (.int v) = (ns.set j v).map V.int := (List.map_set).symm
end
end Z
namespace Z
open PySem PySem.Spec PyProof.Rows L2
theorem z_tup1L {K : Frag} {H : Hp} {Q : VK} {a : Addr} {xs : List V} (h : H a = some (.lst xs)) (k : ∀ p H', H p = none → Same H H' → H' p = some (.tup xs) → Q (.ref p) H') : rTup1 K [.ref a] H Q :=
  ⟨a, xs, rfl, .inl ⟨SqL.of h, fun p hp => k p _ hp (Same.new hp) upd_same⟩⟩
end Z
namespace Z
open PySem PySem.Spec PyProof.Rows L2
section
variable {K : Frag} {σ : L2.St} {H : Hp} {Q : VK} {p C dx : Addr} {fs : List (Str × V)} {i : Nat} {f : Str} {v : V} {D : L2.St → Hp → Prop}
theorem z_gfld (c : Cls K C) (n : NoAttr K C f) (hs : σ[i]? = some (some (.ref p))) (h : H p = some (.ins C dx fs)) (hl : fs.length < 1000) (q : D σ (upd H p (.ins C dx (putF f v fs)))) : gFld K (tVar i) f v σ H D := ⟨_, hs, p, C, dx, fs, rfl, h, c, n, hl, q⟩
theorem z_sfld {tv : TE} {E : Ends} (q : tv σ H fun y H1 => ∃ C dx fs p, σ[i]? = some (some (.ref p)) ∧ H1 p = some (.ins C dx fs) ∧ Cls K C ∧ NoAttr K C f ∧ fs.length < 1000 ∧ E.nx σ (upd H1 p (.ins C dx (putF f y fs)))) (mono : ∀ {R R' : VK}, (∀ v H, R v H → R' v H) → tv σ H R → tv σ H R') : sFld K (tVar i) tv f E σ H :=
  mono (fun y H1 z => by obtain ⟨C, dx, fs, p, h1, h2, h3, h4, h5, h6⟩ := z; exact ⟨_, h1, p, C, dx, fs, rfl, h2, h3, h4, h5, h6⟩) q
def zSfl (K : Frag) (i : Nat) (f : Str) (E : Ends) (σ : L2.St) (y : V) (H1 : Hp) : Prop := tVar i σ H1 fun x H2 => ∃ a C dx fs, x = .ref a ∧ H2 a = some (.ins C dx fs) ∧ Cls K C ∧ NoAttr K C f ∧ fs.length < 1000 ∧ E.nx σ (upd H2 a (.ins C dx (putF f y fs)))
theorem z_sfl {tv : TE} {E : Ends} (q : tv σ H fun y H1 => zSfl K i f E σ y H1) : sFld K (tVar i) tv f E σ H := q
theorem z_sflp {E : Ends} (c : Cls K C) (n : NoAttr K C f) (hs : σ[i]? = some (some (.ref p))) (h : H p = some (.ins C dx fs)) (hl : fs.length < 1000) (q : E.nx σ (upd H p (.ins C dx (putF f v fs)))) : zSfl K i f E σ v H := ⟨_, hs, p, C, dx, fs, rfl, h, c, n, hl, q⟩
theorem z_fldG (c : Cls K C) (n : NoAttr K C f) (hs : σ[i]? = some (some (.ref p))) (h : H p = some (.ins C dx fs)) (l : fs.lookup f = some v) (q : Q v H) : tFld K (tVar i) f σ H Q := ⟨_, hs, p, C, dx, fs, v, rfl, h, c, n, l, q⟩
theorem pfB {g : Str} {u : V} {r : List (Str × V)} (h : ¬ g = f) : putF f v ((g, u) :: r) = (g, u) :: putF f v r := by
  show (if g = f then _ else _) = _
  rw [if_neg h]
theorem pfN : putF f v [] = [(f, v)] := rfl
/-- a store at a new object keeps all that was there before it -/
theorem Same.put {H0 H1 : Hp} {o : HO} (s : Same H0 H1) (h : H0 p = none) : Same H0 (upd H1 p o) := fun b u hb => by
  rw [upd_ne (ne_of_none hb h)]
  exact s b u hb
end
end Z
namespace Z
open PySem PySem.Spec PyProof.Rows L2
section
variable {K : Frag} {H H' : Hp} {Q : VK} {p a : Addr} {xs : List V}
/-- an object that is no list stands too -/
theorem But.atT (e : But p H H') (hP : IsPool H p) (h : H a = some (.tup xs)) : H' a = some (.tup xs) := e a _ (fun q => by
  obtain ⟨ns, hn⟩ := hP
  rw [q, hn] at h
  cases h) h
theorem But.atI {C dx : Addr} {fs : List (Str × V)} (e : But p H H') (hP : IsPool H p) (h : H a = some (.ins C dx fs)) : H' a = some (.ins C dx fs) := e a _ (fun q => by
  obtain ⟨ns, hn⟩ := hP
  rw [q, hn] at h
  cases h) h
theorem IsPool.ne (hP : IsPool H p) (h : H a = none) : a ≠ p := fun e => by
  obtain ⟨ns, hn⟩ := hP
  rw [e, hn] at h
  cases h
theorem IsPool.of {ns : List Int} (h : H p = some (.lst (ns.map V.int))) : IsPool H p := ⟨ns, h⟩
/-- min of a list: is it zero -/
theorem z_ixC {ns : List Int} {k : Int} (h : H a = some (.lst (ns.map V.int))) (h0 : 0 ≤ k) (h1 : k < ns.length) (q : Q (.int (ns.getD k.toNat 0)) H) : rIx K (.ref a) (.int k) H Q :=
  z_ixL (SqL.of h) (at_int h0 (by rw [List.getD_eq_getElem?_getD, List.getElem?_eq_getElem (by omega)]; rfl)) q
end
end Z
namespace Z
open PySem PySem.Spec PyProof.Rows L2
theorem Same.none {H H' : Hp} {a : Addr} (s : Same H H') (h : H' a = Option.none) : H a = Option.none := by
  cases e : H a with
  | none => rfl
  | some o =>
    rw [s _ _ e] at h
    cases h
end Z

set_option maxHeartbeats 4000000
/-! append, more of isinstance -/
namespace Z
open PySem PySem.Spec PyProof.Rows L2
section
variable {K : Frag} {σ : L2.St} {H : Hp} {Q : VK} {t : TA} {i : Nat} {l : Addr} {xs : List V} {y : V}
/-- l.append(e) -/
theorem z_app (hs : σ[i]? = some (some (.ref l))) (h : H l = some (.lst xs)) (q : t σ H fun vs H1 => rAppend (.ref l) vs H1 Q) : tBM K "list" rAppend (tVar i) t σ H Q := ⟨_, hs, .inl ⟨rfl, _, SqL.of h⟩, q⟩
theorem z_ap (h : H l = some (.lst xs)) (hn : xs.length < 16777216) (q : Q .non (upd H l (.lst (xs ++ [y])))) : rAppend (.ref l) [y] H Q := ⟨l, xs, y, rfl, rfl, h, by rw [sizeLine_eq]; exact hn, q⟩
theorem z_isi_ni (q : Q (.bl false) H) : rIsi K [.non, .ty "int"] H Q := z_isi (.ty "int") (.base .non) (kit_ty (by decide +kernel)) q
end
end Z

set_option maxHeartbeats 4000000
/-! plain mathematics of k31: numbers by places, times 1 + x again and again -/
namespace S31
/-- the number at a place -/
def cf (xs : List Int) (k : Nat) : Int := xs.getD k 0
def tp (f : Nat → Int) : Nat → Int := fun k => (if k = 0 then 0 else f (k - 1)) + f k
def tpn (f : Nat → Int) : Nat → Nat → Int
  | 0 => f
  | n + 1 => tp (tpn f n)
def NN (f : Nat → Int) (n : Nat) : Prop := ∀ k, 0 ≤ tpn f n k
/-- r is the first power up to most, or there is none -/
def LP (f : Nat → Int) (most : Nat) (r : Option Nat) : Prop := (r = none ∧ ∀ j, j ≤ most → ¬ NN f j) ∨ ∃ n, n ≤ most ∧ r = some n ∧ NN f n ∧ ∀ j, j < n → ¬ NN f j
theorem lp_one {f : Nat → Int} {most : Nat} {r s : Option Nat} (h : LP f most r) (h' : LP f most s) : r = s := by
  rcases h with ⟨rfl, h⟩ | ⟨n, n1, rfl, n2, n3⟩ <;> rcases h' with ⟨rfl, h'⟩ | ⟨m, m1, rfl, m2, m3⟩
  · rfl
  · exact absurd m2 (h m m1)
  · exact absurd n2 (h' n n1)
  · have : n = m := by
      by_cases q : n < m
      · exact absurd n2 (m3 n q)
      · by_cases q' : m < n
        · exact absurd m2 (n3 m q')
        · omega
    rw [this]
theorem cf_nil {k : Nat} : cf [] k = 0 := by simp [cf]
theorem cf_out {xs : List Int} {k : Nat} (h : xs.length ≤ k) : cf xs k = 0 := by simp [cf, List.getD_eq_getElem?_getD, h]
theorem cf_in {xs : List Int} {k : Nat} (h : k < xs.length) : cf xs k = xs[k] := by simp [cf, List.getD_eq_getElem?_getD, h]
theorem cf_cons {x : Int} {xs : List Int} {k : Nat} : cf (x :: xs) k = if k = 0 then x else cf xs (k - 1) := by
  cases k with
  | zero => simp [cf]
  | succ k => simp [cf]
theorem cf_app0 {xs : List Int} {k : Nat} : cf (xs ++ [0]) k = cf xs k := by
  by_cases h : k < xs.length
  · rw [cf_in h, cf_in (by simp; omega), List.getElem_append_left h]
  · rw [cf_out (xs := xs) (by omega)]
    by_cases h2 : k = xs.length
    · subst h2
      simp [cf]
    · exact cf_out (by simp; omega)
theorem cf_map {xs : List Int} {g : Int → Int} {k : Nat} (g0 : g 0 = 0) : cf (xs.map g) k = g (cf xs k) := by
  by_cases h : k < xs.length
  · rw [cf_in h, cf_in (by simpa using h), List.getElem_map]
  · rw [cf_out (xs := xs) (by omega), cf_out (by rw [List.length_map]; omega), g0]
def stp (xs : List Int) : List Int := List.zipWith (fun a b => a + b) (0 :: xs) (xs ++ [0])
theorem stp_len {xs : List Int} : (stp xs).length = xs.length + 1 := by simp [stp]
theorem cf_stp {xs : List Int} {k : Nat} : cf (stp xs) k = tp (cf xs) k := by
  by_cases h : k < xs.length + 1
  · rw [cf_in (by rw [stp_len]; exact h)]
    unfold stp
    rw [List.getElem_zipWith]
    unfold tp
    rw [← cf_app0 (xs := xs) (k := k), cf_in (xs := xs ++ [0]) (k := k) (by simp; omega)]
    congr 1
    have e := cf_cons (x := 0) (xs := xs) (k := k)
    rw [cf_in (by simp; omega)] at e
    exact e
  · rw [cf_out (by rw [stp_len]; omega)]
    unfold tp
    rw [cf_out (xs := xs) (k := k) (by omega), if_neg (by omega), cf_out (by omega)]
    rfl
theorem tp_congr {f g : Nat → Int} (h : ∀ k, f k = g k) (k : Nat) : tp f k = tp g k := by
  have : f = g := funext h
  rw [this]
/-- nonneg, by the list -/
theorem nn_list {xs : List Int} {f : Nat → Int} {n : Nat} (h : ∀ k, cf xs k = tpn f n k) : NN f n ↔ ∀ v, v ∈ xs → 0 ≤ v := by
  constructor
  · intro q v hv
    obtain ⟨k, hk, rfl⟩ := List.mem_iff_getElem.mp hv
    rw [← cf_in hk, h]
    exact q k
  · intro q k
    rw [← h]
    by_cases hk : k < xs.length
    · rw [cf_in hk]
      exact q _ (List.getElem_mem hk)
    · rw [cf_out (by omega)]
      exact Int.le_refl _
theorem tpn_scale {f g : Nat → Int} {c : Int} (h : ∀ k, f k = c * g k) : ∀ n k, tpn f n k = c * tpn g n k
  | 0, k => h k
  | n + 1, k => by
    show tp (tpn f n) k = c * tp (tpn g n) k
    unfold tp
    rw [tpn_scale h n k, Int.mul_add]
    split
    · rw [Int.mul_zero]
    · rw [tpn_scale h n (k - 1)]
theorem nn_scale {f g : Nat → Int} {c : Int} (hc : 0 < c) (h : ∀ k, f k = c * g k) (n : Nat) : NN f n ↔ NN g n := by
  constructor
  · intro q k
    have := q k
    rw [tpn_scale h] at this
    exact Int.nonneg_of_mul_nonneg_right this hc
  · intro q k
    rw [tpn_scale h]
    exact Int.mul_nonneg (by omega) (q k)
theorem lp_scale {f g : Nat → Int} {c : Int} {most : Nat} {r : Option Nat} (hc : 0 < c) (h : ∀ k, f k = c * g k) (p : LP g most r) : LP f most r := by
  rcases p with ⟨e, q⟩ | ⟨n, n1, e, n2, n3⟩
  · exact .inl ⟨e, fun j hj => (fun z => q j hj ((nn_scale hc h j).mp z))⟩
  · exact .inr ⟨n, n1, e, (nn_scale hc h n).mpr n2, fun j hj z => n3 j hj ((nn_scale hc h j).mp z)⟩
/-- in lowest terms: a factor and zeros at the end left out -/
def Low (ns ls : List Int) : Prop := ls.length ≤ ns.length ∧ ∃ c : Int, 0 < c ∧ ∀ k, cf ns k = c * cf ls k
theorem Low.lp {ns ls : List Int} {most : Nat} {r : Option Nat} (h : Low ns ls) (p : LP (cf ls) most r) : LP (cf ns) most r := by
  obtain ⟨_, c, c0, h⟩ := h
  exact lp_scale c0 h p
/-- the common divisor -/
def gl (c : Int) (ns : List Int) : Int := ns.foldl (fun c n => ((Int.gcd c n : Nat) : Int)) c
theorem gl_snoc {c n : Int} {ns : List Int} : gl c (ns ++ [n]) = ((Int.gcd (gl c ns) n : Nat) : Int) := by simp [gl]
theorem gl_pos {c : Int} (hc : 0 < c) : ∀ ns : List Int, 0 < gl c ns ∧ gl c ns ≤ c ∧ gl c ns ∣ c ∧ ∀ n ∈ ns, gl c ns ∣ n := by
  intro ns
  induction ns generalizing c with
  | nil => exact ⟨hc, Int.le_refl _, Int.dvd_refl _, fun n h => by cases h⟩
  | cons x xs ih =>
    have g0 : 0 < ((Int.gcd c x : Nat) : Int) := by
      have := Int.gcd_pos_of_ne_zero_left x (show c ≠ 0 by omega)
      omega
    obtain ⟨i1, i2, i3, i4⟩ := ih g0
    have d1 : ((Int.gcd c x : Nat) : Int) ∣ c := Int.gcd_dvd_left ..
    have d2 : ((Int.gcd c x : Nat) : Int) ∣ x := Int.gcd_dvd_right ..
    have le := Int.le_of_dvd hc d1
    refine ⟨i1, Int.le_trans i2 le, Int.dvd_trans i3 d1, fun n h => ?_⟩
    rcases List.mem_cons.mp h with rfl | h
    · exact Int.dvd_trans i3 d2
    · exact i4 n h
theorem low_of {ns : List Int} {s : Nat} {o : Int} (ho : 0 < o) (hs : s ≤ ns.length) (hz : ∀ k, s ≤ k → cf ns k = 0) : Low ns ((ns.take s).map fun n => n / gl o (ns.take s)) := by
  obtain ⟨g0, _, _, gd⟩ := gl_pos ho (ns.take s)
  refine ⟨by simp; omega, _, g0, fun k => ?_⟩
  by_cases h : k < s
  · have h1 : k < ns.length := by omega
    have h2 : k < (ns.take s).length := by simp; omega
    rw [cf_map (g := fun n => n / gl o (ns.take s)) (Int.zero_ediv _), cf_in h1, cf_in h2, List.getElem_take]
    have : gl o (ns.take s) ∣ ns[k] := gd _ (by
      have := List.getElem_mem h2
      rwa [List.getElem_take] at this)
    rw [Int.mul_comm, Int.ediv_mul_cancel this]
  · rw [hz k (by omega), cf_out (by simp; omega), Int.mul_zero]
/-- no power will do -/
def Bad (f : Nat → Int) : Prop := ∀ n, ¬ NN f n
theorem Bad.lp {f : Nat → Int} {most : Nat} {r : Option Nat} (b : Bad f) (p : LP f most r) : r = none := by
  rcases p with ⟨e, _⟩ | ⟨n, _, _, q, _⟩
  · exact e
  · exact absurd q (b n)
/-- a greater bound -/
theorem lp_more {f : Nat → Int} {a b n : Nat} (h : LP f a (some n)) (hb : a ≤ b) : LP f b (some n) := by
  rcases h with ⟨e, _⟩ | ⟨m, m1, e, m2, m3⟩
  · cases e
  · exact .inr ⟨m, by omega, e, m2, m3⟩
/-- a lesser bound -/
theorem lp_less {f : Nat → Int} {a b : Nat} {r : Option Nat} (h : LP f a r) (hb : b ≤ a) : LP f b (match r with | none => none | some n => if b < n then none else some n) := by
  rcases h with ⟨rfl, h⟩ | ⟨m, m1, rfl, m2, m3⟩
  · exact .inl ⟨rfl, fun j hj => h j (by omega)⟩
  · by_cases c : b < m
    · simp only [c, if_true]
      exact .inl ⟨rfl, fun j hj => m3 j (by omega)⟩
    · simp only [c, if_false]
      exact .inr ⟨m, by omega, rfl, m2, m3⟩
end S31

set_option maxHeartbeats 4000000
/-! where no power will do; the power of a narrow polynomial -/
namespace S31
/-! products by places -/
def cv (f g : Nat → Int) (m : Nat) : Nat → Int
  | 0 => 0
  | J + 1 => cv f g m J + (if J ≤ m then f J * g (m - J) else 0)
/-- the value at x of the first N places -/
def E (f : Nat → Int) (x : Rat) : Nat → Rat
  | 0 => 0
  | N + 1 => E f x N + (f N : Rat) * x ^ N
theorem icz : ((0 : Int) : Rat) = 0 := rfl
theorem pow_add' {x : Rat} (a : Nat) : ∀ b, x ^ (a + b) = x ^ a * x ^ b
  | 0 => by rw [Nat.add_zero, Rat.pow_zero]; grind
  | b + 1 => by rw [← Nat.add_assoc, Rat.pow_succ, pow_add' a b, Rat.pow_succ]; grind
theorem E_congr {f g : Nat → Int} {x : Rat} : ∀ {N}, (∀ k, k < N → f k = g k) → E f x N = E g x N
  | 0, _ => rfl
  | N + 1, h => by
    show E f x N + (f N : Rat) * x ^ N = E g x N + (g N : Rat) * x ^ N
    rw [E_congr fun k hk => h k (by omega), h N (by omega)]
theorem E_add {f g : Nat → Int} {x : Rat} : ∀ {N}, E (fun k => f k + g k) x N = E f x N + E g x N
  | 0 => by
    show (0 : Rat) = 0 + 0
    grind
  | N + 1 => by
    show E (fun k => f k + g k) x N + ((f N + g N : Int) : Rat) * x ^ N = (E f x N + (f N : Rat) * x ^ N) + (E g x N + (g N : Rat) * x ^ N)
    rw [E_add, Rat.intCast_add]
    grind
theorem E_zero {f : Nat → Int} {x : Rat} : ∀ {N}, (∀ k, k < N → f k = 0) → E f x N = 0
  | 0, _ => rfl
  | N + 1, h => by
    show E f x N + (f N : Rat) * x ^ N = 0
    rw [E_zero fun k hk => h k (by omega), h N (by omega), icz]
    grind
theorem E_supp {f : Nat → Int} {x : Rat} {a : Nat} (h : ∀ k, a ≤ k → f k = 0) : ∀ n, E f x (a + n) = E f x a
  | 0 => rfl
  | n + 1 => by
    show E f x (a + n) + (f (a + n) : Rat) * x ^ (a + n) = E f x a
    rw [E_supp h n, h (a + n) (by omega), icz]
    grind
theorem E_shift {g : Nat → Int} {a : Int} {J : Nat} {x : Rat} : ∀ n, E (fun m => if J ≤ m then a * g (m - J) else 0) x (J + n) = (a : Rat) * x ^ J * E g x n
  | 0 => by
    rw [Nat.add_zero, E_zero fun k hk => if_neg (by omega)]
    show (0 : Rat) = (a : Rat) * x ^ J * 0
    grind
  | n + 1 => by
    show E _ x (J + n) + (((if J ≤ J + n then a * g (J + n - J) else 0) : Int) : Rat) * x ^ (J + n) = (a : Rat) * x ^ J * (E g x n + (g n : Rat) * x ^ n)
    rw [E_shift n, if_pos (by omega), Nat.add_sub_cancel_left, Rat.intCast_mul, pow_add']
    grind
theorem E_cv {f g : Nat → Int} {x : Rat} {b : Nat} (hg : ∀ k, b ≤ k → g k = 0) : ∀ J n, E (fun m => cv f g m J) x (J + b + n) = E f x J * E g x b
  | 0, n => by
    have e : E (fun m => cv f g m 0) x (0 + b + n) = 0 := E_zero fun k _ => rfl
    rw [e]
    show (0 : Rat) = 0 * E g x b
    grind
  | J + 1, n => by
    show E (fun m => cv f g m J + (if J ≤ m then f J * g (m - J) else 0)) x (J + 1 + b + n) = (E f x J + (f J : Rat) * x ^ J) * E g x b
    rw [E_add, show J + 1 + b + n = J + b + (n + 1) by omega, E_cv hg J, show J + b + (n + 1) = J + (b + (n + 1)) by omega, E_shift, E_supp hg]
    grind
/-! values and powers -/
theorem E_tp {f : Nat → Int} {x : Rat} {N : Nat} (h : ∀ k, N ≤ k → f k = 0) : E (tp f) x (N + 1) = (1 + x) * E f x N := by
  have e1 : E (tp f) x (N + 1) = E (fun m => (if 1 ≤ m then (1 : Int) * f (m - 1) else 0) + f m) x (N + 1) := E_congr fun k _ => by
    unfold tp
    by_cases q : k = 0
    · rw [if_pos q, if_neg (by omega)]
    · rw [if_neg q, if_pos (by omega), Int.one_mul]
  rw [e1, E_add, Nat.add_comm N 1, E_shift, Nat.add_comm 1 N, E_supp h]
  have : ((1 : Int) : Rat) = 1 := rfl
  rw [this]
  grind
theorem tpn_supp {f : Nat → Int} {N : Nat} (h : ∀ k, N ≤ k → f k = 0) : ∀ n k, N + n ≤ k → tpn f n k = 0
  | 0, k, hk => h k (by omega)
  | n + 1, k, hk => by
    show tp (tpn f n) k = 0
    unfold tp
    rw [tpn_supp h n k (by omega), if_neg (by omega), tpn_supp h n (k - 1) (by omega)]
    rfl
theorem E_tpn {f : Nat → Int} {x : Rat} {N : Nat} (h : ∀ k, N ≤ k → f k = 0) : ∀ n, E (tpn f n) x (N + n) = (1 + x) ^ n * E f x N
  | 0 => by
    show E f x N = (1 + x) ^ 0 * E f x N
    rw [Rat.pow_zero]
    grind
  | n + 1 => by
    show E (tp (tpn f n)) x (N + n + 1) = _
    rw [E_tp (tpn_supp h n), E_tpn h n, Rat.pow_succ]
    grind
theorem pow_pos' {x : Rat} (h : 0 < x) : ∀ n : Nat, 0 < x ^ n
  | 0 => by rw [Rat.pow_zero]; decide
  | n + 1 => by rw [Rat.pow_succ]; exact Rat.mul_pos (pow_pos' h n) h
theorem E_nonneg {f : Nat → Int} {x : Rat} (hx : 0 < x) (h : ∀ k, 0 ≤ f k) : ∀ N, 0 ≤ E f x N
  | 0 => Rat.le_refl
  | N + 1 => by
    show 0 ≤ E f x N + (f N : Rat) * x ^ N
    have h1 := E_nonneg hx h N
    have h2 : 0 ≤ (f N : Rat) * x ^ N := Rat.mul_nonneg (by exact_mod_cast h N) (Rat.le_of_lt (pow_pos' hx N))
    grind
theorem E_all {f : Nat → Int} {x : Rat} (hx : 0 < x) (h : ∀ k, 0 ≤ f k) : ∀ N, E f x N = 0 → ∀ k, k < N → f k = 0
  | 0, _, k, hk => absurd hk (Nat.not_lt_zero k)
  | N + 1, e, k, hk => by
    have e : E f x N + (f N : Rat) * x ^ N = 0 := e
    have h1 := E_nonneg hx h N
    have p := pow_pos' hx N
    have h2 : 0 ≤ (f N : Rat) * x ^ N := Rat.mul_nonneg (by exact_mod_cast h N) (Rat.le_of_lt p)
    have h3 : E f x N = 0 := by grind
    have h4 : (f N : Rat) * x ^ N = 0 := by grind
    by_cases q : k = N
    · rw [q]
      rcases Rat.mul_eq_zero.mp h4 with z | z
      · exact_mod_cast z
      · rw [z] at p
        exact absurd p (by decide)
    · exact E_all hx h N h3 k (by omega)
theorem bad_neg {f : Nat → Int} {x : Rat} {N : Nat} (hx : 0 < x) (hf : ∀ k, N ≤ k → f k = 0) (h : E f x N < 0) : Bad f := fun n q => by
  have h1 := E_nonneg hx q (N + n)
  rw [E_tpn hf] at h1
  have p := pow_pos' (x := 1 + x) (by grind) n
  have : 0 < (1 + x) ^ n * (- E f x N) := Rat.mul_pos p (by grind)
  grind
theorem tp_inj {f : Nat → Int} (h : ∀ k, tp f k = 0) : ∀ k, f k = 0
  | 0 => by
    have := h 0
    unfold tp at this
    simpa using this
  | k + 1 => by
    have := h (k + 1)
    unfold tp at this
    rw [if_neg (by omega), Nat.add_sub_cancel, tp_inj h k] at this
    omega
theorem tpn_inj {f : Nat → Int} : ∀ n, (∀ k, tpn f n k = 0) → ∀ k, f k = 0
  | 0, h => h
  | n + 1, h => tpn_inj n (tp_inj h)
theorem bad_zero {f : Nat → Int} {x : Rat} {N : Nat} (hx : 0 < x) (hf : ∀ k, N ≤ k → f k = 0) (h : E f x N = 0) (h0 : ∃ k, f k ≠ 0) : Bad f := fun n q => by
  have h1 : E (tpn f n) x (N + n) = 0 := by
    rw [E_tpn hf, h]
    grind
  have h2 := E_all hx q (N + n) h1
  obtain ⟨k, hk⟩ := h0
  refine hk (tpn_inj n (fun j => ?_) k)
  by_cases c : j < N + n
  · exact h2 j c
  · exact tpn_supp hf n j (by omega)
/-! shifted, scaled -/
def sh (f : Nat → Int) : Nat → Int := fun k => if k = 0 then 0 else f (k - 1)
theorem tpn_sh {f : Nat → Int} : ∀ n k, tpn (sh f) n k = sh (tpn f n) k
  | 0, k => rfl
  | n + 1, k => by
    show tp (tpn (sh f) n) k = sh (tp (tpn f n)) k
    rw [tp_congr (tpn_sh n) k]
    unfold tp sh
    by_cases h : k = 0
    · simp [h]
    · by_cases h1 : k = 1
      · simp [h1]
      · simp [h]
theorem bad_sh {f : Nat → Int} (b : Bad f) : Bad (sh f) := fun n q => b n fun k => by
  have := q (k + 1)
  rw [tpn_sh] at this
  unfold sh at this
  simpa using this
theorem bad_scale {f g : Nat → Int} {c : Int} (hc : 0 < c) (h : ∀ k, g k = c * f k) (b : Bad f) : Bad g := fun n q => b n ((nn_scale hc h n).mp q)
theorem bad_congr {f g : Nat → Int} (h : ∀ k, g k = f k) (b : Bad f) : Bad g := by
  have : g = f := funext h
  rw [this]
  exact b
/-! the narrow polynomial m x^2 - (2 m - 4) x + m -/
def pb : Nat → Nat → Int := tpn fun k => if k = 0 then 1 else 0
theorem pb_succ {N k : Nat} : pb (N + 1) k = (if k = 0 then 0 else pb N (k - 1)) + pb N k := rfl
theorem pb_up : ∀ N k : Nat, ((k : Int) + 1) * pb (N + 1) (k + 1) = ((N : Int) + 1) * pb N k
  | 0, k => by
    rw [pb_succ]
    show ((k : Int) + 1) * ((if k + 1 = 0 then 0 else (if k = 0 then 1 else 0)) + (if k + 1 = 0 then 1 else 0)) = (0 + 1) * (if k = 0 then 1 else 0)
    by_cases h : k = 0
    · subst h
      decide
    · simp [h]
  | N + 1, k => by
    rw [pb_succ (N := N + 1), if_neg (by omega), Nat.add_sub_cancel]
    have i1 := pb_up N k
    have i2 : (k : Int) * pb (N + 1) k = ((N : Int) + 1) * (if k = 0 then 0 else pb N (k - 1)) := by
      cases k with
      | zero => simp
      | succ j =>
        rw [if_neg (by omega), Nat.add_sub_cancel]
        have := pb_up N j
        push_cast
        exact this
    have e := pb_succ (N := N) (k := k)
    push_cast
    generalize (if k = 0 then 0 else pb N (k - 1)) = z at *
    grind
theorem pb_left {N k : Nat} : (k : Int) * pb (N + 1) k = ((N : Int) + 1) * (if k = 0 then 0 else pb N (k - 1)) := by
  cases k with
  | zero => simp
  | succ j =>
    rw [if_neg (by omega), Nat.add_sub_cancel]
    have := pb_up N j
    push_cast
    exact this
theorem pb_right {N k : Nat} : ((N : Int) + 1 - k) * pb (N + 1) k = ((N : Int) + 1) * pb N k := by
  have h1 := pb_left (N := N) (k := k)
  have e := pb_succ (N := N) (k := k)
  generalize (if k = 0 then 0 else pb N (k - 1)) = z at *
  grind
theorem pb_nonneg : ∀ N k, 0 ≤ pb N k
  | 0, k => by
    show 0 ≤ (if k = 0 then (1 : Int) else 0)
    split <;> decide
  | N + 1, k => by
    rw [pb_succ]
    have h1 := pb_nonneg N k
    have h2 := pb_nonneg N (k - 1)
    split <;> omega
theorem pb_pos : ∀ N k, k ≤ N → 0 < pb N k
  | 0, k, h => by
    have : k = 0 := by omega
    subst this
    decide
  | N + 1, k, h => by
    rw [pb_succ]
    by_cases c : k ≤ N
    · have h1 := pb_pos N k c
      have h2 := pb_nonneg N (k - 1)
      split <;> omega
    · have e : k = N + 1 := by omega
      subst e
      rw [if_neg (by omega), Nat.add_sub_cancel]
      have h1 := pb_pos N N (Nat.le_refl _)
      have h2 := pb_nonneg N (N + 1)
      omega
theorem pb_out : ∀ N k, N < k → pb N k = 0
  | 0, k, h => if_neg (by omega)
  | N + 1, k, h => by
    rw [pb_succ, if_neg (by omega), pb_out N k (by omega), pb_out N (k - 1) (by omega)]
    rfl
def ee (m N k : Int) : Int := m * N * (N - 1) - 4 * (m - 1) * k * (N - k)
theorem deep_cf {f : Nat → Int} {m : Int} (f0 : f 0 = m) (f1 : f 1 = 4 - 2 * m) (f2 : f 2 = m) (f3 : ∀ k, 3 ≤ k → f k = 0) : ∀ n k : Nat, ((n : Int) + 2) * (n + 1) * tpn f n k = pb (n + 2) k * ee m (n + 2) k
  | 0, k => by
    show ((0 : Int) + 2) * (0 + 1) * f k = _
    by_cases h0 : k = 0
    · subst h0
      rw [f0, show pb (0 + 2) 0 = 1 by decide]
      unfold ee
      simp
      omega
    · by_cases h1 : k = 1
      · subst h1
        rw [f1, show pb (0 + 2) 1 = 2 by decide]
        unfold ee
        simp
        grind
      · by_cases h2 : k = 2
        · subst h2
          rw [f2, show pb (0 + 2) 2 = 1 by decide]
          unfold ee
          simp
          omega
        · rw [f3 k (by omega), pb_out _ _ (by omega)]
          simp
  | n + 1, k => by
    have i1 := deep_cf f0 f1 f2 f3 n k
    have e : tpn f (n + 1) k = (if k = 0 then 0 else tpn f n (k - 1)) + tpn f n k := rfl
    have i2 : ((n : Int) + 2) * (n + 1) * (if k = 0 then 0 else tpn f n (k - 1)) = (if k = 0 then 0 else pb (n + 2) (k - 1)) * ee m (n + 2) (k - 1) := by
      by_cases h : k = 0
      · simp [h]
      · rw [if_neg h, if_neg h]
        have := deep_cf f0 f1 f2 f3 n (k - 1)
        rw [this]
        have : ((k - 1 : Nat) : Int) = (k : Int) - 1 := by omega
        rw [this]
    have l := pb_left (N := n + 2) (k := k)
    have r := pb_right (N := n + 2) (k := k)
    rw [e]
    push_cast at *
    generalize (if k = 0 then 0 else tpn f n (k - 1)) = u at *
    generalize (if k = 0 then 0 else pb (n + 2) (k - 1)) = v at *
    generalize tpn f n k = w at *
    generalize pb (n + 2) k = b at *
    show ((n : Int) + 1 + 2) * ((n : Int) + 1 + 1) * (u + w) = pb (n + 2 + 1) k * ee m ((n : Int) + 1 + 2) k
    generalize pb (n + 2 + 1) k = c at *
    have q : ((n : Int) + 1) * (((n : Int) + 1 + 2) * ((n : Int) + 1 + 1) * (u + w)) = ((n : Int) + 1) * (c * ee m ((n : Int) + 1 + 2) k) := by
      have a1 : ((n : Int) + 1) * (((n : Int) + 1 + 2) * ((n : Int) + 1 + 1) * (u + w)) = ((n : Int) + 3) * (v * ee m (n + 2) (k - 1)) + ((n : Int) + 3) * (b * ee m (n + 2) k) := by
        rw [← i1, ← i2]
        grind
      have a2 : ((n : Int) + 3) * (v * ee m (n + 2) (k - 1)) = (k * c) * ee m (n + 2) (k - 1) := by
        rw [l]
        grind
      have a3 : ((n : Int) + 3) * (b * ee m (n + 2) k) = (((n : Int) + 3 - k) * c) * ee m (n + 2) k := by
        have : ((n : Int) + 3 - k) * c = ((n : Int) + 3) * b := by
          grind
        rw [this]
        grind
      rw [a1, a2, a3]
      unfold ee
      grind
    exact Int.eq_of_mul_eq_mul_left (by omega) q
theorem deep_nn {f : Nat → Int} {m : Int} (f0 : f 0 = m) (f1 : f 1 = 4 - 2 * m) (f2 : f 2 = m) (f3 : ∀ k, 3 ≤ k → f k = 0) (n : Nat) : NN f n ↔ ∀ k : Nat, k ≤ n + 2 → 0 ≤ ee m (n + 2) k := by
  have pos : 0 < ((n : Int) + 2) * (n + 1) := Int.mul_pos (by omega) (by omega)
  constructor
  · intro q k hk
    have h := deep_cf f0 f1 f2 f3 n k
    have h1 := Int.mul_nonneg (Int.le_of_lt pos) (q k)
    rw [h] at h1
    exact Int.nonneg_of_mul_nonneg_right h1 (pb_pos _ _ hk)
  · intro q k
    have h := deep_cf f0 f1 f2 f3 n k
    by_cases hk : k ≤ n + 2
    · have h1 := Int.mul_nonneg (Int.le_of_lt (pb_pos _ _ hk)) (q k hk)
      rw [← h] at h1
      exact Int.nonneg_of_mul_nonneg_right h1 pos
    · rw [pb_out _ _ (by omega), Int.zero_mul] at h
      rcases Int.mul_eq_zero.mp h with z | z
      · omega
      · rw [z]
        exact Int.le_refl _
theorem sq_nonneg (a : Int) : 0 ≤ a * a := by
  by_cases h : 0 ≤ a
  · exact Int.mul_nonneg h h
  · have := Int.mul_nonneg (show 0 ≤ -a by omega) (show 0 ≤ -a by omega)
    rwa [Int.neg_mul_neg] at this
theorem deep_yes {m N k : Int} (h3 : 3 ≤ m) (hN : m ≤ N) : 0 ≤ ee m N k := by
  have h1 : 0 ≤ N * (N - m) := Int.mul_nonneg (by omega) (by omega)
  have h2 := Int.mul_nonneg (show 0 ≤ m - 1 by omega) (sq_nonneg (N - 2 * k))
  have e : ee m N k = N * (N - m) + (m - 1) * ((N - 2 * k) * (N - 2 * k)) := by
    unfold ee
    grind
  omega
theorem deep_yes1 {m N k : Int} (h3 : 3 ≤ m) (hN : m ≤ N + 1) (odd : N % 2 = 1) : 0 ≤ ee m N k := by
  have h1 : 0 ≤ (N - 1) * (N - m + 1) := Int.mul_nonneg (by omega) (by omega)
  have h0 : 0 ≤ (N - 2 * k) * (N - 2 * k) - 1 := by
    have : (N - 2 * k) * (N - 2 * k) ≠ 0 := fun z => by
      rcases Int.mul_eq_zero.mp z with z | z <;> omega
    have := sq_nonneg (N - 2 * k)
    omega
  have h2 := Int.mul_nonneg (show 0 ≤ m - 1 by omega) h0
  have e : ee m N k = (N - 1) * (N - m + 1) + (m - 1) * ((N - 2 * k) * (N - 2 * k) - 1) := by
    unfold ee
    grind
  omega
theorem deep_no {m h : Int} (h0 : 1 ≤ h) (hN : 2 * h < m) : ee m (2 * h) h < 0 := by
  have h1 : 0 < (2 * h) * (m - 2 * h) := Int.mul_pos (by omega) (by omega)
  have e : ee m (2 * h) h = -((2 * h) * (m - 2 * h)) := by
    unfold ee
    grind
  omega
theorem deep_no1 {m h : Int} (h0 : 1 ≤ h) (hN : 2 * h + 1 < m - 1) : ee m (2 * h + 1) h < 0 := by
  have h1 : 0 < (2 * h) * (m - 2 * h - 2) := Int.mul_pos (by omega) (by omega)
  have e : ee m (2 * h + 1) h = -((2 * h) * (m - 2 * h - 2)) := by
    unfold ee
    grind
  omega
/-- the least power of the narrow polynomial -/
theorem deep_least {f : Nat → Int} {m : Int} (h3 : 3 ≤ m) (f0 : f 0 = m) (f1 : f 1 = 4 - 2 * m) (f2 : f 2 = m) (f3 : ∀ k, 3 ≤ k → f k = 0) (n : Nat) : NN f n ↔ (if m % 2 = 0 then m - 3 else m - 2) ≤ (n : Int) := by
  rw [deep_nn f0 f1 f2 f3]
  constructor
  · intro q
    by_cases c : (if m % 2 = 0 then m - 3 else m - 2) ≤ (n : Int)
    · exact c
    · exfalso
      by_cases par : ((n : Int) + 2) % 2 = 0
      · have e : (n : Int) + 2 = 2 * (((n + 2) / 2 : Nat) : Int) := by omega
        have := q ((n + 2) / 2) (by omega)
        rw [e] at this
        have lt : 2 * (((n + 2) / 2 : Nat) : Int) < m := by split at c <;> omega
        have := deep_no (m := m) (h := (((n + 2) / 2 : Nat) : Int)) (by omega) lt
        omega
      · have e : (n : Int) + 2 = 2 * (((n + 1) / 2 : Nat) : Int) + 1 := by omega
        have := q ((n + 1) / 2) (by omega)
        rw [e] at this
        have lt : 2 * (((n + 1) / 2 : Nat) : Int) + 1 < m - 1 := by split at c <;> omega
        have := deep_no1 (m := m) (h := (((n + 1) / 2 : Nat) : Int)) (by omega) lt
        omega
  · intro c k hk
    by_cases big : m ≤ (n : Int) + 2
    · exact deep_yes h3 big
    · refine deep_yes1 h3 ?_ ?_ <;> (split at c <;> omega)
end S31

set_option maxHeartbeats 4000000
/-! the drawn polynomials -/
namespace S31
theorem cv_none {f g : Nat → Int} {m : Nat} : ∀ J, (∀ j, j < J → j ≤ m → f j * g (m - j) = 0) → cv f g m J = 0
  | 0, _ => rfl
  | J + 1, h => by
    show cv f g m J + (if J ≤ m then f J * g (m - J) else 0) = 0
    rw [cv_none J fun j hj => h j (by omega)]
    by_cases c : J ≤ m
    · rw [if_pos c, h J (by omega) c]
      rfl
    · rw [if_neg c]
      rfl
theorem cv_one {f g : Nat → Int} {m k : Nat} (hk : k ≤ m) : ∀ J, k < J → (∀ j, j < J → j ≠ k → j ≤ m → f j * g (m - j) = 0) → cv f g m J = f k * g (m - k)
  | 0, h, _ => absurd h (Nat.not_lt_zero _)
  | J + 1, h, z => by
    show cv f g m J + (if J ≤ m then f J * g (m - J) else 0) = _
    by_cases e : k = J
    · subst e
      rw [cv_none k fun j hj hm => z j (by omega) (by omega) hm, if_pos hk, Int.zero_add]
    · rw [cv_one hk J (by omega) fun j hj => z j (by omega)]
      by_cases c : J ≤ m
      · rw [if_pos c, z J (by omega) (Ne.symm e) c, Int.add_zero]
      · rw [if_neg c, Int.add_zero]
/-- the sum of the first N places -/
def sm (f : Nat → Int) : Nat → Int
  | 0 => 0
  | N + 1 => sm f N + f N
theorem E_at1 {f : Nat → Int} : ∀ N, E f 1 N = (sm f N : Rat)
  | 0 => rfl
  | N + 1 => by
    show E f 1 N + (f N : Rat) * (1 : Rat) ^ N = ((sm f N + f N : Int) : Rat)
    rw [E_at1 N, Rat.intCast_add]
    have : ∀ n : Nat, (1 : Rat) ^ n = 1 := fun n => by
      induction n with
      | zero => exact Rat.pow_zero _
      | succ n ih => rw [Rat.pow_succ, ih]; grind
    rw [this]
    grind
/-- a product of lists -/
def Pr (ps qs rs : List Int) : Prop := rs.length = ps.length + qs.length - 1 ∧ ∀ m, cf rs m = cv (cf ps) (cf qs) m ps.length
theorem Pr.E {ps qs rs : List Int} (h : Pr ps qs rs) (h1 : 0 < ps.length) (x : Rat) : E (cf rs) x rs.length = E (cf ps) x ps.length * E (cf qs) x qs.length := by
  obtain ⟨hl, hc⟩ := h
  have e1 := E_cv (f := cf ps) (g := cf qs) (x := x) (b := qs.length) (fun k hk => cf_out hk) ps.length 0
  have e2 : S31.E (cf rs) x (rs.length + 1) = S31.E (cf rs) x rs.length := E_supp (fun k hk => cf_out hk) 1
  rw [← e1, ← e2]
  by_cases c : 0 < qs.length
  · have : ps.length + qs.length + 0 = rs.length + 1 := by omega
    rw [this]
    exact E_congr fun k _ => hc k
  · have e3 : S31.E (cf rs) x (rs.length + 1) = S31.E (cf rs) x (ps.length + qs.length + 0) := by
      have : rs.length + 1 = ps.length + qs.length + 0 := by omega
      rw [this]
    rw [e3]
    exact E_congr fun k _ => hc k
theorem Pr.sm {ps qs rs : List Int} (h : Pr ps qs rs) (h1 : 0 < ps.length) : sm (cf rs) rs.length = sm (cf ps) ps.length * sm (cf qs) qs.length := by
  have := h.E h1 1
  rw [E_at1, E_at1, E_at1, ← Rat.intCast_mul] at this
  exact_mod_cast this
structure FacA (i : Nat) (ns : List Int) : Prop where
  len : ns.length = 1 + 2 * i
  s : 0 < sm (cf ns) ns.length
  z : 0 < cf ns 0
theorem facA_0 : FacA 0 [1] := ⟨rfl, by decide, by decide⟩
theorem facA_step {i : Nat} {ns rs : List Int} {c e : Int} (h : FacA i ns) (he : 1 ≤ e) (p : Pr ns [2 * c * c + e, -8 * c, 8] rs) : FacA (i + 1) rs := by
  have hl := h.len
  refine ⟨?_, ?_, ?_⟩
  · rw [p.1, hl]
    show 1 + 2 * i + 3 - 1 = _
    omega
  · rw [p.sm (by omega)]
    refine Int.mul_pos h.s ?_
    show 0 < 0 + (2 * c * c + e) + (-8 * c) + 8
    have := sq_nonneg (c - 2)
    have : (c - 2) * (c - 2) = c * c - 4 * c + 4 := by grind
    have : 2 * c * c = 2 * (c * c) := Int.mul_assoc ..
    omega
  · rw [p.2, cv_one (k := 0) (Nat.le_refl _) _ (by omega) (fun j _ h1 h2 => absurd h2 (by omega))]
    refine Int.mul_pos h.z ?_
    show 0 < 2 * c * c + e
    have := sq_nonneg c
    have : 2 * c * c = 2 * (c * c) := Int.mul_assoc ..
    omega
structure FacB (i : Nat) (ns : List Int) : Prop where
  len : ns.length = 3 + i
  s : 0 < sm (cf ns) ns.length
  z : ∃ k, k ≤ i ∧ cf ns k ≠ 0 ∧ ∀ j, j < k → cf ns j = 0
theorem facB_0 {ns : List Int} (h : FacA 1 ns) : FacB 0 ns := ⟨h.len, h.s, 0, Nat.le_refl _, by have := h.z; omega, fun j hj => absurd hj (Nat.not_lt_zero _)⟩
theorem facB_step {i : Nat} {ns rs : List Int} {r : Int} (h : FacB i ns) (hr : 0 ≤ r) (p : Pr ns [r, 1] rs) : FacB (i + 1) rs := by
  have hl := h.len
  refine ⟨?_, ?_, ?_⟩
  · rw [p.1, hl]
    show 3 + i + 2 - 1 = _
    omega
  · rw [p.sm (by omega)]
    refine Int.mul_pos h.s ?_
    show 0 < 0 + r + 1
    omega
  · obtain ⟨k, k1, k2, k3⟩ := h.z
    have low : ∀ j, j < k → cf rs j = 0 := fun j hj => by
      rw [p.2]
      exact cv_none _ fun j' _ h2 => by rw [k3 j' (by omega), Int.zero_mul]
    have at_ : cf rs k = cf ns k * r := by
      rw [p.2, cv_one (k := k) (Nat.le_refl _) _ (by omega) fun j _ h1 h2 => by rw [k3 j (by omega), Int.zero_mul], Nat.sub_self]
      rfl
    by_cases r0 : r = 0
    · subst r0
      refine ⟨k + 1, by omega, ?_, fun j hj => ?_⟩
      · rw [p.2, cv_one (k := k) (by omega) _ (by omega) fun j _ h1 h2 => ?_, Nat.add_sub_cancel_left]
        · show cf ns k * 1 ≠ 0
          rw [Int.mul_one]
          exact k2
        · by_cases c : j < k
          · rw [k3 j c, Int.zero_mul]
          · have : j = k + 1 := by omega
            subst this
            rw [Nat.sub_self]
            exact Int.mul_zero _
      · by_cases c : j < k
        · exact low j c
        · have : j = k := by omega
          subst this
          rw [at_, Int.mul_zero]
    · refine ⟨k, by omega, ?_, low⟩
      rw [at_]
      exact fun z => (Int.mul_eq_zero.mp z).elim k2 r0
/-- what the factors make -/
structure Fac (ns : List Int) : Prop where
  l1 : 3 ≤ ns.length
  l2 : ns.length ≤ 5
  s : 0 < sm (cf ns) ns.length
  z : ∃ k, k ≤ 2 ∧ cf ns k ≠ 0 ∧ ∀ j, j < k → cf ns j = 0
theorem FacA.fac {i : Nat} {ns : List Int} (h : FacA i ns) (h1 : 1 ≤ i) (h2 : i ≤ 2) : Fac ns := ⟨by rw [h.len]; omega, by rw [h.len]; omega, h.s, 0, by omega, by have := h.z; omega, fun j hj => absurd hj (Nat.not_lt_zero _)⟩
theorem FacB.fac {i : Nat} {ns : List Int} (h : FacB i ns) (h2 : i ≤ 2) : Fac ns := by
  obtain ⟨k, k1, k2, k3⟩ := h.z
  exact ⟨by rw [h.len]; omega, by rw [h.len]; omega, h.s, k, by omega, k2, k3⟩
theorem cf_take {ns : List Int} {n k : Nat} (h : k < n) : cf (ns.take n) k = cf ns k := by
  unfold cf
  rw [List.getD_eq_getElem?_getD, List.getElem?_take, if_pos h, List.getD_eq_getElem?_getD]
/-- the first three places times 2 x - (1 + t) -/
theorem bad_root {ns rs : List Int} {t : Int} (h : Fac ns) (ht : 0 ≤ t) (p : Pr (ns.take 3) [-1 - t, 2] rs) : Bad (cf rs) := by
  have hl := h.l1
  have hl3 : (ns.take 3).length = 3 := by rw [List.length_take]; omega
  have hx : (0 : Rat) < ((1 + t : Int) : Rat) / 2 := by
    have : (0 : Rat) < ((1 + t : Int) : Rat) := by exact_mod_cast (show 0 < 1 + t by omega)
    grind
  refine bad_zero (N := rs.length) hx (fun k hk => cf_out hk) ?_ ?_
  · rw [p.E (by omega)]
    have : S31.E (cf [-1 - t, 2]) (((1 + t : Int) : Rat) / 2) [-1 - t, 2].length = 0 := by
      show (0 : Rat) + ((-1 - t : Int) : Rat) * (((1 + t : Int) : Rat) / 2) ^ 0 + ((2 : Int) : Rat) * (((1 + t : Int) : Rat) / 2) ^ 1 = 0
      rw [Rat.pow_zero, Rat.pow_succ, Rat.pow_zero]
      have e1 : ((-1 - t : Int) : Rat) = - ((1 + t : Int) : Rat) := by
        rw [← Rat.intCast_neg]
        congr 1
        omega
      have e2 : ((2 : Int) : Rat) = 2 := rfl
      rw [e1, e2]
      grind
    rw [this]
    grind
  · obtain ⟨k, k1, k2, k3⟩ := h.z
    refine ⟨k, ?_⟩
    rw [p.2, cv_one (k := k) (Nat.le_refl _) _ (by omega) fun j _ h1 h2 => by rw [cf_take (by omega), k3 j (by omega), Int.zero_mul], Nat.sub_self, cf_take (by omega)]
    show cf ns k * (-1 - t) ≠ 0
    exact fun z => (Int.mul_eq_zero.mp z).elim k2 (by omega)
/-- turned -/
theorem bad_turned {ns : List Int} (h : Fac ns) : Bad (cf (ns.map fun n => -n)) := by
  refine bad_neg (x := 1) (N := ns.length) (by decide) (fun k hk => cf_out (by simpa using hk)) ?_
  rw [E_at1]
  have e : ∀ N, sm (cf (ns.map fun n => -n)) N = - sm (cf ns) N := fun N => by
    induction N with
    | zero => rfl
    | succ N ih =>
      show sm _ N + cf _ N = -(sm _ N + cf _ N)
      rw [ih, cf_map (g := fun n => -n) rfl]
      omega
  rw [e]
  have := h.s
  have q : (0 : Rat) < ((sm (cf ns) ns.length : Int) : Rat) := by exact_mod_cast this
  rw [Rat.intCast_neg]
  grind
theorem cf_sh {ns : List Int} (k : Nat) : cf (0 :: ns) k = sh (cf ns) k := cf_cons
theorem cf_top {ns : List Int} {t : Int} (k : Nat) : cf (ns.map fun n => t * n) k = t * cf ns k := cf_map (g := fun n => t * n) (Int.mul_zero _)
end S31

set_option maxHeartbeats 0
namespace T
open PySem PySem.Spec PyProof.Rows L2 Z
/-! ### the text by places -/
def topS (i : Nat) : Stmt := PySem.Challenge.pw_belownought_k31_least_power.main.body.getD i (.Pass ⟨0, 0, 0, 0⟩)
abbrev s_OutOfBoundsD_initD : Stmt := inClass (topS 6) 0
theorem sc_OutOfBoundsD_initD : FnScope (["self", "value"] : List Str) (["self", "value"] : List Str) (defScope s_OutOfBoundsD_initD) := ⟨rfl, rfl, rfl, by decide +kernel, rfl, by decide +kernel, by decide +kernel⟩
abbrev s_check_number : Stmt := topS 8
theorem sc_check_number : FnScope (["value", "low", "high"] : List Str) (["value", "low", "high"] : List Str) (defScope s_check_number) := ⟨rfl, rfl, rfl, by decide +kernel, rfl, by decide +kernel, by decide +kernel⟩
abbrev s_BadSizeD_initD : Stmt := inClass (topS 7) 0
theorem sc_BadSizeD_initD : FnScope (["self", "size"] : List Str) (["self", "size"] : List Str) (defScope s_BadSizeD_initD) := ⟨rfl, rfl, rfl, by decide +kernel, rfl, by decide +kernel, by decide +kernel⟩
abbrev s_check_size : Stmt := topS 9
theorem sc_check_size : FnScope (["things", "low", "high", "size"] : List Str) (["things", "low", "high"] : List Str) (defScope s_check_size) := ⟨rfl, rfl, rfl, by decide +kernel, rfl, by decide +kernel, by decide +kernel⟩
abbrev s_lowest_terms : Stmt := topS 24
theorem sc_lowest_terms : FnScope (["numbers", "over", "size", "common", "number"] : List Str) (["numbers", "over"] : List Str) (defScope s_lowest_terms) := ⟨rfl, rfl, rfl, by decide +kernel, rfl, by decide +kernel, by decide +kernel⟩
abbrev s_PolyD_initD : Stmt := inClass (topS 23) 0
theorem sc_PolyD_initD : FnScope (["self", "numbers", "over"] : List Str) (["self", "numbers", "over"] : List Str) (defScope s_PolyD_initD) := ⟨rfl, rfl, rfl, by decide +kernel, rfl, by decide +kernel, by decide +kernel⟩
abbrev s_law_is : Stmt := topS 36
theorem sc_law_is : FnScope (["told", "due"] : List Str) (["told", "due"] : List Str) (defScope s_law_is) := ⟨rfl, rfl, rfl, by decide +kernel, rfl, by decide +kernel, by decide +kernel⟩
abbrev s_law_least : Stmt := topS 35
theorem sc_law_least : FnScope (["nums", "most", "row", "n", "up", "down", "k"] : List Str) (["nums", "most"] : List Str) (defScope s_law_least) := ⟨rfl, rfl, rfl, by decide +kernel, rfl, by decide +kernel, by decide +kernel⟩
abbrev s_least_power : Stmt := topS 28
theorem sc_least_power : FnScope (["poly", "most", "numbers", "power", "number", "first", "second"] : List Str) (["poly", "most"] : List Str) (defScope s_least_power) := ⟨rfl, rfl, rfl, by decide +kernel, rfl, by decide +kernel, by decide +kernel⟩
abbrev s_law_asked : Stmt := topS 37
theorem sc_law_asked : FnScope (["nums", "over", "most", "least", "wanted", "due"] : List Str) (["nums", "over", "most"] : List Str) (defScope s_law_asked) := ⟨rfl, rfl, rfl, by decide +kernel, rfl, by decide +kernel, by decide +kernel⟩
abbrev s_law_fell : Stmt := topS 38
theorem sc_law_fell : FnScope (["poly", "most", "e"] : List Str) (["poly", "most"] : List Str) (defScope s_law_fell) := ⟨rfl, rfl, rfl, by decide +kernel, rfl, by decide +kernel, by decide +kernel⟩
abbrev s_law_bounds : Stmt := topS 40
theorem sc_law_bounds : FnScope (["poly", "told"] : List Str) (["poly"] : List Str) (defScope s_law_bounds) := ⟨rfl, rfl, rfl, by decide +kernel, rfl, by decide +kernel, by decide +kernel⟩
abbrev s_law_take : Stmt := topS 30
theorem sc_law_take : FnScope (["pool", "k", "many", "cell"] : List Str) (["pool", "k", "many"] : List Str) (defScope s_law_take) := ⟨rfl, rfl, rfl, by decide +kernel, rfl, by decide +kernel, by decide +kernel⟩
abbrev s_law_turn : Stmt := topS 31
theorem sc_law_turn : FnScope (["pool", "k", "many", "far"] : List Str) (["pool", "k", "many", "far"] : List Str) (defScope s_law_turn) := ⟨rfl, rfl, rfl, by decide +kernel, rfl, by decide +kernel, by decide +kernel⟩
abbrev s_law_deep : Stmt := topS 39
theorem sc_law_deep : FnScope (["pool", "most", "m", "least", "poly"] : List Str) (["pool"] : List Str) (defScope s_law_deep) := ⟨rfl, rfl, rfl, by decide +kernel, rfl, by decide +kernel, by decide +kernel⟩
abbrev s_law_times : Stmt := topS 32
theorem sc_law_times : FnScope (["p", "q", "nums", "j", "k"] : List Str) (["p", "q"] : List Str) (defScope s_law_times) := ⟨rfl, rfl, rfl, by decide +kernel, rfl, by decide +kernel, by decide +kernel⟩
abbrev s_law_factors : Stmt := topS 33
theorem sc_law_factors : FnScope (["pool", "nums", "j", "c", "e"] : List Str) (["pool"] : List Str) (defScope s_law_factors) := ⟨rfl, rfl, rfl, by decide +kernel, rfl, by decide +kernel, by decide +kernel⟩
abbrev s_law_world : Stmt := topS 34
theorem sc_law_world : FnScope (["pool", "mode", "nums", "one", "odd", "top"] : List Str) (["pool"] : List Str) (defScope s_law_world) := ⟨rfl, rfl, rfl, by decide +kernel, rfl, by decide +kernel, by decide +kernel⟩
abbrev s_law : Stmt := topS 41
theorem sc_law : FnScope (["script", "pool", "mode", "nums", "over", "most", "wider", "poly"] : List Str) (["script"] : List Str) (defScope s_law) := ⟨rfl, rfl, rfl, by decide +kernel, rfl, by decide +kernel, by decide +kernel⟩
/-! ### facts -/
def df_OutOfBoundsD_initD : He.DefD := ⟨("OutOfBounds", some "__init__"), "__init__", "OutOfBounds.__init__", defArgs s_OutOfBoundsD_initD, defBody s_OutOfBoundsD_initD, defScope s_OutOfBoundsD_initD, [], []⟩
def df_check_number : He.DefD := ⟨("check_number", none), "check_number", "check_number", defArgs s_check_number, defBody s_check_number, defScope s_check_number, [.non], []⟩
def df_BadSizeD_initD : He.DefD := ⟨("BadSize", some "__init__"), "__init__", "BadSize.__init__", defArgs s_BadSizeD_initD, defBody s_BadSizeD_initD, defScope s_BadSizeD_initD, [], []⟩
def df_check_size : He.DefD := ⟨("check_size", none), "check_size", "check_size", defArgs s_check_size, defBody s_check_size, defScope s_check_size, [], []⟩
def df_lowest_terms : He.DefD := ⟨("lowest_terms", none), "lowest_terms", "lowest_terms", defArgs s_lowest_terms, defBody s_lowest_terms, defScope s_lowest_terms, [], []⟩
def df_PolyD_initD : He.DefD := ⟨("Poly", some "__init__"), "__init__", "Poly.__init__", defArgs s_PolyD_initD, defBody s_PolyD_initD, defScope s_PolyD_initD, [.int 1], []⟩
def df_law_is : He.DefD := ⟨("_law_is", none), "_law_is", "_law_is", defArgs s_law_is, defBody s_law_is, defScope s_law_is, [], []⟩
def df_law_least : He.DefD := ⟨("_law_least", none), "_law_least", "_law_least", defArgs s_law_least, defBody s_law_least, defScope s_law_least, [], []⟩
def df_least_power : He.DefD := ⟨("least_power", none), "least_power", "least_power", defArgs s_least_power, defBody s_least_power, defScope s_least_power, [], []⟩
def df_law_asked : He.DefD := ⟨("_law_asked", none), "_law_asked", "_law_asked", defArgs s_law_asked, defBody s_law_asked, defScope s_law_asked, [], []⟩
def df_law_fell : He.DefD := ⟨("_law_fell", none), "_law_fell", "_law_fell", defArgs s_law_fell, defBody s_law_fell, defScope s_law_fell, [], []⟩
def df_law_bounds : He.DefD := ⟨("_law_bounds", none), "_law_bounds", "_law_bounds", defArgs s_law_bounds, defBody s_law_bounds, defScope s_law_bounds, [], []⟩
def df_law_take : He.DefD := ⟨("_law_take", none), "_law_take", "_law_take", defArgs s_law_take, defBody s_law_take, defScope s_law_take, [], []⟩
def df_law_turn : He.DefD := ⟨("_law_turn", none), "_law_turn", "_law_turn", defArgs s_law_turn, defBody s_law_turn, defScope s_law_turn, [], []⟩
def df_law_deep : He.DefD := ⟨("_law_deep", none), "_law_deep", "_law_deep", defArgs s_law_deep, defBody s_law_deep, defScope s_law_deep, [], []⟩
def df_law_times : He.DefD := ⟨("_law_times", none), "_law_times", "_law_times", defArgs s_law_times, defBody s_law_times, defScope s_law_times, [], []⟩
def df_law_factors : He.DefD := ⟨("_law_factors", none), "_law_factors", "_law_factors", defArgs s_law_factors, defBody s_law_factors, defScope s_law_factors, [], []⟩
def df_law_world : He.DefD := ⟨("_law_world", none), "_law_world", "_law_world", defArgs s_law_world, defBody s_law_world, defScope s_law_world, [], []⟩
def df_law : He.DefD := ⟨("law", none), "law", "law", defArgs s_law, defBody s_law, defScope s_law, [], []⟩
def fn : List He.DefD := [df_OutOfBoundsD_initD, df_check_number, df_BadSizeD_initD, df_check_size, df_lowest_terms, df_PolyD_initD, df_law_is, df_law_least, df_least_power, df_law_asked, df_law_fell, df_law_bounds, df_law_take, df_law_turn, df_law_deep, df_law_times, df_law_factors, df_law_world, df_law]
def fb : List Chk := [cGlo "BadSize", cGlo "NoughtError", cGlo "OutOfBounds", cGlo "Poly", cGlo "_law_asked", cGlo "_law_bounds", cGlo "_law_deep", cGlo "_law_factors", cGlo "_law_fell", cGlo "_law_is", cGlo "_law_least", cGlo "_law_take", cGlo "_law_times", cGlo "_law_turn", cGlo "_law_world", cGlo "check_number", cGlo "check_size", cGlo "law", cGlo "least_power", cGlo "lowest_terms", cFree "abs", cFree "any", cFree "bool", cVal "gcd" "math.gcd", cFree "int", cFree "isinstance", cFree "len", cFree "list", cFree "max", cFree "min", cFree "range", cFree "tuple", cFree "zip", cCls "Poly", cIns "Poly", cMk "Poly", cSelf "Poly", cNo "Poly" "degree", cNo "Poly" "numbers", cNo "Poly" "over", cOex "BadSize", cNo "BadSize" "size", cOex "OutOfBounds", cNo "OutOfBounds" "value", cExm "BadSize" "NoughtError" true, cExm "OutOfBounds" "NoughtError" true, cExcC "BadSize", cExcC "OutOfBounds", cKit "OutOfBounds" "OutOfBounds" true, cKit "OutOfBounds" "BadSize" false]
abbrev Lw (K : Frag) (mg : Str → Option Value) : Prop := Lw0 fb fn K mg
section
variable {K : Frag} {mg : Str → Option Value}
theorem Lw.g_BadSize (L : Lw K mg) : mg "BadSize" = some (.ref (He.ga K "BadSize")) := by
  obtain ⟨h, X, G⟩ := L.at_
  exact He.glo_ok X G (L.c.fact 0 rfl)
theorem Lw.g_NoughtError (L : Lw K mg) : mg "NoughtError" = some (.ref (He.ga K "NoughtError")) := by
  obtain ⟨h, X, G⟩ := L.at_
  exact He.glo_ok X G (L.c.fact 1 rfl)
theorem Lw.g_OutOfBounds (L : Lw K mg) : mg "OutOfBounds" = some (.ref (He.ga K "OutOfBounds")) := by
  obtain ⟨h, X, G⟩ := L.at_
  exact He.glo_ok X G (L.c.fact 2 rfl)
theorem Lw.g_Poly (L : Lw K mg) : mg "Poly" = some (.ref (He.ga K "Poly")) := by
  obtain ⟨h, X, G⟩ := L.at_
  exact He.glo_ok X G (L.c.fact 3 rfl)
theorem Lw.g_law_asked (L : Lw K mg) : mg "_law_asked" = some (.ref (He.ga K "_law_asked")) := by
  obtain ⟨h, X, G⟩ := L.at_
  exact He.glo_ok X G (L.c.fact 4 rfl)
theorem Lw.g_law_bounds (L : Lw K mg) : mg "_law_bounds" = some (.ref (He.ga K "_law_bounds")) := by
  obtain ⟨h, X, G⟩ := L.at_
  exact He.glo_ok X G (L.c.fact 5 rfl)
theorem Lw.g_law_deep (L : Lw K mg) : mg "_law_deep" = some (.ref (He.ga K "_law_deep")) := by
  obtain ⟨h, X, G⟩ := L.at_
  exact He.glo_ok X G (L.c.fact 6 rfl)
theorem Lw.g_law_factors (L : Lw K mg) : mg "_law_factors" = some (.ref (He.ga K "_law_factors")) := by
  obtain ⟨h, X, G⟩ := L.at_
  exact He.glo_ok X G (L.c.fact 7 rfl)
theorem Lw.g_law_fell (L : Lw K mg) : mg "_law_fell" = some (.ref (He.ga K "_law_fell")) := by
  obtain ⟨h, X, G⟩ := L.at_
  exact He.glo_ok X G (L.c.fact 8 rfl)
theorem Lw.g_law_is (L : Lw K mg) : mg "_law_is" = some (.ref (He.ga K "_law_is")) := by
  obtain ⟨h, X, G⟩ := L.at_
  exact He.glo_ok X G (L.c.fact 9 rfl)
theorem Lw.g_law_least (L : Lw K mg) : mg "_law_least" = some (.ref (He.ga K "_law_least")) := by
  obtain ⟨h, X, G⟩ := L.at_
  exact He.glo_ok X G (L.c.fact 10 rfl)
theorem Lw.g_law_take (L : Lw K mg) : mg "_law_take" = some (.ref (He.ga K "_law_take")) := by
  obtain ⟨h, X, G⟩ := L.at_
  exact He.glo_ok X G (L.c.fact 11 rfl)
theorem Lw.g_law_times (L : Lw K mg) : mg "_law_times" = some (.ref (He.ga K "_law_times")) := by
  obtain ⟨h, X, G⟩ := L.at_
  exact He.glo_ok X G (L.c.fact 12 rfl)
theorem Lw.g_law_turn (L : Lw K mg) : mg "_law_turn" = some (.ref (He.ga K "_law_turn")) := by
  obtain ⟨h, X, G⟩ := L.at_
  exact He.glo_ok X G (L.c.fact 13 rfl)
theorem Lw.g_law_world (L : Lw K mg) : mg "_law_world" = some (.ref (He.ga K "_law_world")) := by
  obtain ⟨h, X, G⟩ := L.at_
  exact He.glo_ok X G (L.c.fact 14 rfl)
theorem Lw.g_check_number (L : Lw K mg) : mg "check_number" = some (.ref (He.ga K "check_number")) := by
  obtain ⟨h, X, G⟩ := L.at_
  exact He.glo_ok X G (L.c.fact 15 rfl)
theorem Lw.g_check_size (L : Lw K mg) : mg "check_size" = some (.ref (He.ga K "check_size")) := by
  obtain ⟨h, X, G⟩ := L.at_
  exact He.glo_ok X G (L.c.fact 16 rfl)
theorem Lw.g_law (L : Lw K mg) : mg "law" = some (.ref (He.ga K "law")) := by
  obtain ⟨h, X, G⟩ := L.at_
  exact He.glo_ok X G (L.c.fact 17 rfl)
theorem Lw.g_least_power (L : Lw K mg) : mg "least_power" = some (.ref (He.ga K "least_power")) := by
  obtain ⟨h, X, G⟩ := L.at_
  exact He.glo_ok X G (L.c.fact 18 rfl)
theorem Lw.g_lowest_terms (L : Lw K mg) : mg "lowest_terms" = some (.ref (He.ga K "lowest_terms")) := by
  obtain ⟨h, X, G⟩ := L.at_
  exact He.glo_ok X G (L.c.fact 19 rfl)
theorem Lw.f_abs (L : Lw K mg) : mg "abs" = none := by
  obtain ⟨h, X, G⟩ := L.at_
  exact He.free_ok X G (L.c.fact 20 rfl)
theorem Lw.f_any (L : Lw K mg) : mg "any" = none := by
  obtain ⟨h, X, G⟩ := L.at_
  exact He.free_ok X G (L.c.fact 21 rfl)
theorem Lw.f_bool (L : Lw K mg) : mg "bool" = none := by
  obtain ⟨h, X, G⟩ := L.at_
  exact He.free_ok X G (L.c.fact 22 rfl)
theorem Lw.v_gcd (L : Lw K mg) : mg "gcd" = some (.builtin "math.gcd") := by
  obtain ⟨h, X, G⟩ := L.at_
  exact PySem.W.mg_of X G (He.eqO_ok (L.c.fact 23 rfl))
theorem Lw.f_int (L : Lw K mg) : mg "int" = none := by
  obtain ⟨h, X, G⟩ := L.at_
  exact He.free_ok X G (L.c.fact 24 rfl)
theorem Lw.f_isinstance (L : Lw K mg) : mg "isinstance" = none := by
  obtain ⟨h, X, G⟩ := L.at_
  exact He.free_ok X G (L.c.fact 25 rfl)
theorem Lw.f_len (L : Lw K mg) : mg "len" = none := by
  obtain ⟨h, X, G⟩ := L.at_
  exact He.free_ok X G (L.c.fact 26 rfl)
theorem Lw.f_list (L : Lw K mg) : mg "list" = none := by
  obtain ⟨h, X, G⟩ := L.at_
  exact He.free_ok X G (L.c.fact 27 rfl)
theorem Lw.f_max (L : Lw K mg) : mg "max" = none := by
  obtain ⟨h, X, G⟩ := L.at_
  exact He.free_ok X G (L.c.fact 28 rfl)
theorem Lw.f_min (L : Lw K mg) : mg "min" = none := by
  obtain ⟨h, X, G⟩ := L.at_
  exact He.free_ok X G (L.c.fact 29 rfl)
theorem Lw.f_range (L : Lw K mg) : mg "range" = none := by
  obtain ⟨h, X, G⟩ := L.at_
  exact He.free_ok X G (L.c.fact 30 rfl)
theorem Lw.f_tuple (L : Lw K mg) : mg "tuple" = none := by
  obtain ⟨h, X, G⟩ := L.at_
  exact He.free_ok X G (L.c.fact 31 rfl)
theorem Lw.f_zip (L : Lw K mg) : mg "zip" = none := by
  obtain ⟨h, X, G⟩ := L.at_
  exact He.free_ok X G (L.c.fact 32 rfl)
theorem Lw.cl_Poly (L : Lw K mg) : Cls K (He.ga K "Poly") := He.cls_ok (L.c.fact 33 rfl)
theorem Lw.in_Poly (L : Lw K mg) : InsK K (He.ga K "Poly") := insK_ok (L.c.fact 34 rfl)
theorem Lw.mk_Poly (L : Lw K mg) : Mk K (He.ga K "Poly") (He.ma K (He.ga K "Poly") "__init__") := He.mkr_ok (L.c.fact 35 rfl)
theorem Lw.sf_Poly (L : Lw K mg) : PySem.W.selfFirst K (He.ga K "Poly") = true := (L.c.fact 36 rfl)
theorem Lw.na_Poly_degree (L : Lw K mg) : NoAttr K (He.ga K "Poly") "degree" := He.noat_ok (L.c.fact 37 rfl)
theorem Lw.na_Poly_numbers (L : Lw K mg) : NoAttr K (He.ga K "Poly") "numbers" := He.noat_ok (L.c.fact 38 rfl)
theorem Lw.na_Poly_over (L : Lw K mg) : NoAttr K (He.ga K "Poly") "over" := He.noat_ok (L.c.fact 39 rfl)
theorem Lw.ox_BadSize (L : Lw K mg) : OexC K (He.ga K "BadSize") ∧ PySem.W.findIn K (.ref (He.ga K "BadSize")) "__init__" = some (some (.ref (He.ma K (He.ga K "BadSize") "__init__"))) ∧ PySem.W.typeIn K (.ref (He.ma K (He.ga K "BadSize") "__init__")) = some (.type "function") := oex_ok (L.c.fact 40 rfl)
theorem Lw.na_BadSize_size (L : Lw K mg) : NoAttr K (He.ga K "BadSize") "size" := He.noat_ok (L.c.fact 41 rfl)
theorem Lw.ox_OutOfBounds (L : Lw K mg) : OexC K (He.ga K "OutOfBounds") ∧ PySem.W.findIn K (.ref (He.ga K "OutOfBounds")) "__init__" = some (some (.ref (He.ma K (He.ga K "OutOfBounds") "__init__"))) ∧ PySem.W.typeIn K (.ref (He.ma K (He.ga K "OutOfBounds") "__init__")) = some (.type "function") := oex_ok (L.c.fact 42 rfl)
theorem Lw.na_OutOfBounds_value (L : Lw K mg) : NoAttr K (He.ga K "OutOfBounds") "value" := He.noat_ok (L.c.fact 43 rfl)
theorem Lw.xm_BadSize_NoughtError (L : Lw K mg) : PySem.W.exmOne K (.ref (He.ga K "BadSize")) (.ref (He.ga K "NoughtError")) = some true := He.exm_ok (L.c.fact 44 rfl)
theorem Lw.xm_OutOfBounds_NoughtError (L : Lw K mg) : PySem.W.exmOne K (.ref (He.ga K "OutOfBounds")) (.ref (He.ga K "NoughtError")) = some true := He.exm_ok (L.c.fact 45 rfl)
theorem Lw.ec_BadSize (L : Lw K mg) : ExcC K (He.ga K "BadSize") := excC_ok (L.c.fact 46 rfl)
theorem Lw.xf_BadSize (L : Lw K mg) : XfC K (He.ga K "BadSize") := (L.ec_BadSize).xf
theorem Lw.ec_OutOfBounds (L : Lw K mg) : ExcC K (He.ga K "OutOfBounds") := excC_ok (L.c.fact 47 rfl)
theorem Lw.xf_OutOfBounds (L : Lw K mg) : XfC K (He.ga K "OutOfBounds") := (L.ec_OutOfBounds).xf
theorem Lw.kt_OutOfBounds_OutOfBounds (L : Lw K mg) : PySem.W.kitOne K (.ref (He.ga K "OutOfBounds")) (.ref (He.ga K "OutOfBounds")) = some true := of_decide_eq_true (L.c.fact 48 rfl)
theorem Lw.kt_OutOfBounds_BadSize (L : Lw K mg) : PySem.W.kitOne K (.ref (He.ga K "OutOfBounds")) (.ref (He.ga K "BadSize")) = some false := of_decide_eq_true (L.c.fact 49 rfl)
theorem Lw.d_OutOfBoundsD_initD (L : Lw K mg) : ∃ fd, FunD K "__init__" "OutOfBounds.__init__" (defArgs s_OutOfBoundsD_initD) (defBody s_OutOfBoundsD_initD) (defScope s_OutOfBoundsD_initD) (df_OutOfBoundsD_initD.dvs K) (df_OutOfBoundsD_initD.kws K) (He.fAd K ("OutOfBounds", some "__init__")) fd := L.c.def_ 0 (d := df_OutOfBoundsD_initD) rfl
theorem Lw.d_check_number (L : Lw K mg) : ∃ fd, FunD K "check_number" "check_number" (defArgs s_check_number) (defBody s_check_number) (defScope s_check_number) (df_check_number.dvs K) (df_check_number.kws K) (He.fAd K ("check_number", none)) fd := L.c.def_ 1 (d := df_check_number) rfl
theorem Lw.d_BadSizeD_initD (L : Lw K mg) : ∃ fd, FunD K "__init__" "BadSize.__init__" (defArgs s_BadSizeD_initD) (defBody s_BadSizeD_initD) (defScope s_BadSizeD_initD) (df_BadSizeD_initD.dvs K) (df_BadSizeD_initD.kws K) (He.fAd K ("BadSize", some "__init__")) fd := L.c.def_ 2 (d := df_BadSizeD_initD) rfl
theorem Lw.d_check_size (L : Lw K mg) : ∃ fd, FunD K "check_size" "check_size" (defArgs s_check_size) (defBody s_check_size) (defScope s_check_size) (df_check_size.dvs K) (df_check_size.kws K) (He.fAd K ("check_size", none)) fd := L.c.def_ 3 (d := df_check_size) rfl
theorem Lw.d_lowest_terms (L : Lw K mg) : ∃ fd, FunD K "lowest_terms" "lowest_terms" (defArgs s_lowest_terms) (defBody s_lowest_terms) (defScope s_lowest_terms) (df_lowest_terms.dvs K) (df_lowest_terms.kws K) (He.fAd K ("lowest_terms", none)) fd := L.c.def_ 4 (d := df_lowest_terms) rfl
theorem Lw.d_PolyD_initD (L : Lw K mg) : ∃ fd, FunD K "__init__" "Poly.__init__" (defArgs s_PolyD_initD) (defBody s_PolyD_initD) (defScope s_PolyD_initD) (df_PolyD_initD.dvs K) (df_PolyD_initD.kws K) (He.fAd K ("Poly", some "__init__")) fd := L.c.def_ 5 (d := df_PolyD_initD) rfl
theorem Lw.d_law_is (L : Lw K mg) : ∃ fd, FunD K "_law_is" "_law_is" (defArgs s_law_is) (defBody s_law_is) (defScope s_law_is) (df_law_is.dvs K) (df_law_is.kws K) (He.fAd K ("_law_is", none)) fd := L.c.def_ 6 (d := df_law_is) rfl
theorem Lw.d_law_least (L : Lw K mg) : ∃ fd, FunD K "_law_least" "_law_least" (defArgs s_law_least) (defBody s_law_least) (defScope s_law_least) (df_law_least.dvs K) (df_law_least.kws K) (He.fAd K ("_law_least", none)) fd := L.c.def_ 7 (d := df_law_least) rfl
theorem Lw.d_least_power (L : Lw K mg) : ∃ fd, FunD K "least_power" "least_power" (defArgs s_least_power) (defBody s_least_power) (defScope s_least_power) (df_least_power.dvs K) (df_least_power.kws K) (He.fAd K ("least_power", none)) fd := L.c.def_ 8 (d := df_least_power) rfl
theorem Lw.d_law_asked (L : Lw K mg) : ∃ fd, FunD K "_law_asked" "_law_asked" (defArgs s_law_asked) (defBody s_law_asked) (defScope s_law_asked) (df_law_asked.dvs K) (df_law_asked.kws K) (He.fAd K ("_law_asked", none)) fd := L.c.def_ 9 (d := df_law_asked) rfl
theorem Lw.d_law_fell (L : Lw K mg) : ∃ fd, FunD K "_law_fell" "_law_fell" (defArgs s_law_fell) (defBody s_law_fell) (defScope s_law_fell) (df_law_fell.dvs K) (df_law_fell.kws K) (He.fAd K ("_law_fell", none)) fd := L.c.def_ 10 (d := df_law_fell) rfl
theorem Lw.d_law_bounds (L : Lw K mg) : ∃ fd, FunD K "_law_bounds" "_law_bounds" (defArgs s_law_bounds) (defBody s_law_bounds) (defScope s_law_bounds) (df_law_bounds.dvs K) (df_law_bounds.kws K) (He.fAd K ("_law_bounds", none)) fd := L.c.def_ 11 (d := df_law_bounds) rfl
theorem Lw.d_law_take (L : Lw K mg) : ∃ fd, FunD K "_law_take" "_law_take" (defArgs s_law_take) (defBody s_law_take) (defScope s_law_take) (df_law_take.dvs K) (df_law_take.kws K) (He.fAd K ("_law_take", none)) fd := L.c.def_ 12 (d := df_law_take) rfl
theorem Lw.d_law_turn (L : Lw K mg) : ∃ fd, FunD K "_law_turn" "_law_turn" (defArgs s_law_turn) (defBody s_law_turn) (defScope s_law_turn) (df_law_turn.dvs K) (df_law_turn.kws K) (He.fAd K ("_law_turn", none)) fd := L.c.def_ 13 (d := df_law_turn) rfl
theorem Lw.d_law_deep (L : Lw K mg) : ∃ fd, FunD K "_law_deep" "_law_deep" (defArgs s_law_deep) (defBody s_law_deep) (defScope s_law_deep) (df_law_deep.dvs K) (df_law_deep.kws K) (He.fAd K ("_law_deep", none)) fd := L.c.def_ 14 (d := df_law_deep) rfl
theorem Lw.d_law_times (L : Lw K mg) : ∃ fd, FunD K "_law_times" "_law_times" (defArgs s_law_times) (defBody s_law_times) (defScope s_law_times) (df_law_times.dvs K) (df_law_times.kws K) (He.fAd K ("_law_times", none)) fd := L.c.def_ 15 (d := df_law_times) rfl
theorem Lw.d_law_factors (L : Lw K mg) : ∃ fd, FunD K "_law_factors" "_law_factors" (defArgs s_law_factors) (defBody s_law_factors) (defScope s_law_factors) (df_law_factors.dvs K) (df_law_factors.kws K) (He.fAd K ("_law_factors", none)) fd := L.c.def_ 16 (d := df_law_factors) rfl
theorem Lw.d_law_world (L : Lw K mg) : ∃ fd, FunD K "_law_world" "_law_world" (defArgs s_law_world) (defBody s_law_world) (defScope s_law_world) (df_law_world.dvs K) (df_law_world.kws K) (He.fAd K ("_law_world", none)) fd := L.c.def_ 17 (d := df_law_world) rfl
theorem Lw.d_law (L : Lw K mg) : ∃ fd, FunD K "law" "law" (defArgs s_law) (defBody s_law) (defScope s_law) (df_law.dvs K) (df_law.kws K) (He.fAd K ("law", none)) fd := L.c.def_ 18 (d := df_law) rfl
end
end T

set_option maxHeartbeats 4000000
namespace T
open PySem PySem.Spec PyProof.Rows L2 Z
/-! the readings' steps, as one word: walk_at "z" (one step), "zz" (as far as it goes), "up" (a fact carried here) -/
local macro_rules | `(tactic| walk_at "up") => `(tactic| first
  | assumption
  | (refine' IsR.mono (by assumption) ?zup; case zup => walk_at "up")
  | (refine' IsE.mono (by assumption) ?zup; case zup => walk_at "up")
  | (refine' Same.at (by assumption) ?zup; case zup => walk_at "up")
  | (refine' SqL.of ?zup; case zup => walk_at "up")
  | (refine' L2.Same.seq (by assumption) ?zup; case zup => walk_at "up"))
local macro_rules | `(tactic| walk_at "z") => `(tactic| first
  | ((with_reducible refine' z_var ?zvh ?_); (case zvh => exact rfl))
  | with_reducible refine z_c ?_
  | with_reducible refine z_cons ?_
  | with_reducible refine z_nil ?_
  | with_reducible refine z_op ?_
  | with_reducible refine z_nx ?_
  | with_reducible refine z_seq ?_
  | with_reducible refine z_asg ?_
  | with_reducible refine z_asgG ?_
  | with_reducible refine z_call ?_
  | with_reducible refine z_sq0 ?_
  | with_reducible refine z_sq1 ?_
  | with_reducible refine z_ifS ?_
  | with_reducible refine z_test ?_
  | with_reducible refine z_tb ?_
  | with_reducible refine z_bl ?_
  | with_reducible refine z_blI ?_
  | with_reducible refine z_ret ?_
  | with_reducible refine z_rt ?_
  | with_reducible refine z_T ?_
  | with_reducible refine z_F ?_
  | with_reducible refine z_add ?_
  | with_reducible refine z_sub ?_
  | with_reducible refine z_neg ?_
  | with_reducible refine z_un ?_
  | with_reducible refine z_eqI ?_
  | with_reducible refine z_neI ?_
  | with_reducible refine z_lt ?_
  | with_reducible refine z_le ?_
  | with_reducible refine z_gt ?_
  | with_reducible refine z_ge ?_
  | with_reducible refine z_not ?_
  | with_reducible refine z_and ?_
  | with_reducible refine z_or ?_
  | with_reducible refine z_andV ?_
  | with_reducible refine z_orV ?_
  | with_reducible refine z_notV ?_
  | with_reducible refine z_if ?_
  | with_reducible refine z_cb ?_
  | with_reducible refine z_int1 ?_
  | with_reducible refine z_intb ?_
  | with_reducible refine z_abs ?_
  | with_reducible refine z_gcd ?_
  | with_reducible refine z_isi_ii ?_
  | with_reducible refine z_isi_ib ?_
  | with_reducible refine z_next ?_
  | with_reducible refine z_drop ?_
  | with_reducible refine z_par ?_
  | with_reducible refine z_par2 ?_
  | with_reducible refine z_tupN ?_
  | with_reducible refine z_lstN ?_
  | ((with_reducible refine' z_nt ?zl1 ?_); (case zl1 => exact Nat.le_of_ble_eq_true rfl); intro p H' hp hs he)
  | ((with_reducible refine' z_gtup ?zl1 ?zl2 ?_); (case zl1 => walk_at "up"); (case zl2 => exact rfl))
  | with_reducible refine z_bk ?_
  | with_reducible refine z_ct ?_
  | with_reducible refine z_break ?_
  | with_reducible refine z_cont ?_
  | with_reducible refine z_retN ?_
  | with_reducible refine z_nn ?_
  | with_reducible refine z_mk ?_
  | with_reducible refine z_gn ?_
  | with_reducible refine z_gcons ?_
  | with_reducible refine z_gnil ?_
  | with_reducible refine z_mt ?_
  | with_reducible refine z_mko ?_
  | with_reducible refine z_for2 ?_
  | with_reducible refine z_ownI ?_
  | ((with_reducible refine' z_lenL ?zl1 ?_); (case zl1 => walk_at "up"))
  | ((with_reducible refine' z_ixT ?zl1 ?zl2 ?_); (case zl1 => walk_at "up"); (case zl2 => exact rfl))
  | ((with_reducible refine' z_mulL ?zl1 ?zl2 ?_); (case zl1 => omega); (case zl2 => omega))
  | ((with_reducible refine' z_mulR ?zl1 ?zl2 ?_); (case zl1 => omega); (case zl2 => omega))
  | ((with_reducible refine' z_divS ?zl1 ?zl2 ?_); (case zl1 => omega); (case zl2 => omega))
  | ((with_reducible refine' z_mulW ?zl1 ?zl2 ?zl3 ?zl4 ?_); (case zl1 => omega); (case zl2 => omega); (case zl3 => omega); (case zl4 => omega))
  | ((with_reducible refine' z_divW ?zl1 ?zl2 ?_); (case zl1 => omega); (case zl2 => omega)))
local macro_rules | `(tactic| walk_at "zz") => `(tactic| repeat (walk_at "z"))
local macro_rules | `(tactic| walk_at "z") => `(tactic| with_reducible refine z_lstN ?_)
local macro_rules | `(tactic| walk_at "z") => `(tactic| with_reducible refine z_p6 ?_)
local macro_rules | `(tactic| walk_at "z") => `(tactic| with_reducible refine z_p12 ?_)
local macro_rules | `(tactic| walk_at "z") => `(tactic| with_reducible refine z_p13 ?_)
local macro_rules | `(tactic| walk_at "z") => `(tactic| with_reducible refine z_calln ?_)
local macro_rules | `(tactic| walk_at "z") => `(tactic| with_reducible refine z_xfS ?_)
local macro_rules | `(tactic| walk_at "z") => `(tactic| with_reducible refine z_lcS ?_)
local macro_rules | `(tactic| walk_at "z") => `(tactic| with_reducible refine z_lcRS ?_)
local macro_rules | `(tactic| walk_at "z") => `(tactic| with_reducible refine z_lcZS ?_)
local macro_rules | `(tactic| walk_at "z") => `(tactic| with_reducible refine z_foS ?_)
local macro_rules | `(tactic| walk_at "z") => `(tactic| with_reducible refine z_for1 ?_)
local macro_rules | `(tactic| walk_at "z") => `(tactic| with_reducible refine z_tsl ?_)
local macro_rules | `(tactic| walk_at "z") => `(tactic| with_reducible refine z_np ?_)
local macro_rules | `(tactic| walk_at "z") => `(tactic| with_reducible refine z_pt ?_)
local macro_rules | `(tactic| walk_at "z") => `(tactic| with_reducible refine z_pti ?_)
local macro_rules | `(tactic| walk_at "z") => `(tactic| with_reducible refine z_catI ?_)
local macro_rules | `(tactic| walk_at "z") => `(tactic| with_reducible refine z_isNI ?_)
local macro_rules | `(tactic| walk_at "z") => `(tactic| with_reducible refine z_isNN ?_)
local macro_rules | `(tactic| walk_at "z") => `(tactic| with_reducible refine z_notNI ?_)
local macro_rules | `(tactic| walk_at "z") => `(tactic| with_reducible refine z_notNN ?_)
local macro_rules | `(tactic| walk_at "z") => `(tactic| with_reducible refine z_gsub ?_)
local macro_rules | `(tactic| walk_at "z") => `(tactic| with_reducible refine z_isNb ?_)
local macro_rules | `(tactic| walk_at "z") => `(tactic| with_reducible refine z_notNb ?_)
local macro_rules | `(tactic| walk_at "z") => `(tactic| ((with_reducible refine' z_nlR ?zl1 ?_); (case zl1 => exact Nat.le_of_ble_eq_true rfl); intro p H' hp hs he))
local macro_rules | `(tactic| walk_at "z") => `(tactic| ((with_reducible refine' z_repR ?zl1 ?zl2 ?_); (case zl1 => omega); (case zl2 => omega)))
local macro_rules | `(tactic| walk_at "z") => `(tactic| ((with_reducible refine' z_repL ?zl1 ?zl2 ?_); (case zl1 => omega); (case zl2 => omega)))
local macro_rules | `(tactic| walk_at "z") => `(tactic| ((with_reducible refine' z_lenLst ?zl1 ?_); (case zl1 => walk_at "up")))
local macro_rules | `(tactic| walk_at "z") => `(tactic| ((with_reducible refine' z_cat ?zl1 ?zl2 ?zl3 ?_); (case zl1 => walk_at "up"); (case zl2 => walk_at "up"); (case zl3 => (simp only [List.length_map, List.length_cons, List.length_nil, List.length_append, List.length_replicate]; omega)); intro p H' hp hs he))
local macro_rules | `(tactic| walk_at "z") => `(tactic| with_reducible refine z_sfl ?_)
theorem sameB {H H1 H2 : Hp} (h : Same H1 H2) (e : Same H H1) : Same H H2 := e.trans h
local macro_rules | `(tactic| walk_at "sm") => `(tactic| first
  | assumption
  | exact fun _ _ h => h
  | (refine' sameB (by assumption) ?zsm; case zsm => walk_at "sm"))

def fs_cn (K : Frag) : F3 := fun a b c H Q E => ∃ v l : Int, a = .int v ∧ b = .int l ∧ (c = .non ∨ ∃ h, c = .int h) ∧
  ((l ≤ v ∧ ∀ h, c = .int h → v ≤ h) → Q .non H) ∧ (¬ (l ≤ v ∧ ∀ h, c = .int h → v ≤ h) → ∀ d H', Same H H' → H' d = some (.xd [("value", .int v)]) → E (.ref (He.ga K "OutOfBounds")) (some d) H')
def fs_cs : F3 := fun a b c H Q _ => ∃ (p : Addr) (xs : List V) (l h : Int), a = .ref p ∧ b = .int l ∧ c = .int h ∧ H p = some (.lst xs) ∧ l ≤ xs.length ∧ (xs.length : Int) ≤ h ∧ Q .non H
section
variable {P : Program} {w : World} {K : Frag} {mg : Str → Option Value} {base : Heap}
theorem ok_OutOfBoundsD_initD (L : Lw K mg) {fd : FuncData} (F : FunD K "__init__" "OutOfBounds.__init__" (defArgs s_OutOfBoundsD_initD) (defBody s_OutOfBoundsD_initD) (defScope s_OutOfBoundsD_initD) (df_OutOfBoundsD_initD.dvs K) (df_OutOfBoundsD_initD.kws K) (He.fAd K ("OutOfBounds", some "__init__")) fd) : FnOk P w K mg base (L2N.CX P w) 1 (He.fAd K ("OutOfBounds", some "__init__")) fd (["self", "value"] : List Str) (sp2 (fs_ex1 K "OutOfBounds" "value")) := by
  refine FunD.ok F sc_OutOfBoundsD_initD len2 (fun cdv A outer s H vs Q E hr h => ?_)
  obtain ⟨a, b, rfl, h⟩ := h
  refine ⟨_, (pss_one (ps_ost (pv 0) (pv 1))), ?_⟩
  obtain ⟨e, H0, rfl, rfl, h0, k⟩ := h
  exact run_ex1 (L.ox_OutOfBounds).1 L.na_OutOfBounds_value h0 rfl rfl k
theorem c_OutOfBoundsD_initD (L : Lw K mg) : MakX P w K mg base 1 "OutOfBounds" (He.ga K "OutOfBounds") (sp2 (fs_ex1 K "OutOfBounds" "value")) := by
  obtain ⟨fd, F⟩ := L.d_OutOfBoundsD_initD
  exact ⟨⟨_, fd, ["self", "value"], (L.ox_OutOfBounds).1, (L.ox_OutOfBounds).2.1, (L.ox_OutOfBounds).2.2, ok_OutOfBoundsD_initD L F, L.g_OutOfBounds, F.bindsN (fun _ _ _ _ _ _ us hl => match us, hl with | [_, _], _ => rfl)⟩⟩
theorem ok_BadSizeD_initD (L : Lw K mg) {fd : FuncData} (F : FunD K "__init__" "BadSize.__init__" (defArgs s_BadSizeD_initD) (defBody s_BadSizeD_initD) (defScope s_BadSizeD_initD) (df_BadSizeD_initD.dvs K) (df_BadSizeD_initD.kws K) (He.fAd K ("BadSize", some "__init__")) fd) : FnOk P w K mg base (L2N.CX P w) 1 (He.fAd K ("BadSize", some "__init__")) fd (["self", "size"] : List Str) (sp2 (fs_ex1 K "BadSize" "size")) := by
  refine FunD.ok F sc_BadSizeD_initD len2 (fun cdv A outer s H vs Q E hr h => ?_)
  obtain ⟨a, b, rfl, h⟩ := h
  refine ⟨_, (pss_one (ps_ost (pv 0) (pv 1))), ?_⟩
  obtain ⟨e, H0, rfl, rfl, h0, k⟩ := h
  exact run_ex1 (L.ox_BadSize).1 L.na_BadSize_size h0 rfl rfl k
theorem c_BadSizeD_initD (L : Lw K mg) : MakX P w K mg base 1 "BadSize" (He.ga K "BadSize") (sp2 (fs_ex1 K "BadSize" "size")) := by
  obtain ⟨fd, F⟩ := L.d_BadSizeD_initD
  exact ⟨⟨_, fd, ["self", "size"], (L.ox_BadSize).1, (L.ox_BadSize).2.1, (L.ox_BadSize).2.2, ok_BadSizeD_initD L F, L.g_BadSize, F.bindsN (fun _ _ _ _ _ _ us hl => match us, hl with | [_, _], _ => rfl)⟩⟩
theorem ok_check_number (L : Lw K mg) {fd : FuncData} (F : FunD K "check_number" "check_number" (defArgs s_check_number) (defBody s_check_number) (defScope s_check_number) (df_check_number.dvs K) (df_check_number.kws K) (He.fAd K ("check_number", none)) fd) : FnOk P w K mg base (L2N.CX P w) 3 (He.fAd K ("check_number", none)) fd (["value", "low", "high"] : List Str) (sp3 (fs_cn K)) := by
  refine FunD.ok F sc_check_number len3 (fun cdv A outer s H vs Q E hr h => ?_)
  obtain ⟨a, b, c, rfl, h⟩ := h
  refine ⟨_, (pss_one (ps_if (PW.pt (pw_or (pt_cmpR o_lt (pv 0) (pv 1) (nomark _)) (pw_or1 (PW.pt (pw_and (pt_cmpR o_notN (pv 2) pe_non (nomark _)) (pw_and1 (pt_cmpR o_gt (pv 0) (pv 2) (nomark _)))))))) (pss_one (L2N.ps_raise rfl (L2N.takes_of rfl rfl rfl rfl) (pmk_x (c_OutOfBoundsD_initD (K := K) L) hr (by decide) passF (pa_cons (pv 0) pa_nil)))) pss_nil)), ?_⟩
  obtain ⟨v, l, rfl, rfl, hc, k, kx⟩ := h
  walk_at "zz"
  refine z_d2 (fun c => ?_) (fun c => ?_)
  · walk_at "zz"
    exact z_exo1 (kx (by omega))
  · rcases hc with rfl | ⟨h, rfl⟩
    · walk_at "zz"
      exact k ⟨by omega, fun h e => by cases e⟩
    · walk_at "zz"
      refine z_d2 (fun c2 => ?_) (fun c2 => ?_)
      · walk_at "zz"
        exact z_exo1 (kx (fun z => absurd (z.2 h rfl) (by omega)))
      · walk_at "zz"
        exact k ⟨by omega, fun h' e => by cases e; omega⟩
theorem c_check_number (L : Lw K mg) : Cal P w K mg base 3 "check_number" (sp3 (fs_cn K)) [] := by
  obtain ⟨fd, F⟩ := L.d_check_number
  obtain ⟨ds, vds, bds⟩ := F.binds1 (ps := ["value", "low", "high"]) 3 1 (by intro z; cases z) rfl (fun _ _ _ _ _ _ _ us its hl hi => match us, its, hl, hi with | [_, _, _], [_], _, _ => ⟨_, rfl, rfl⟩)
  exact ⟨⟨_, fd, ["value", "low", "high"], ds, ok_check_number L F, L.g_check_number, F.kp, bds, vds⟩⟩
theorem c1_check_number (L : Lw K mg) : Cal P w K mg base 3 "check_number" (sp3 (fs_cn K)) [V.non] := by
  obtain ⟨fd, F⟩ := L.d_check_number
  obtain ⟨ds, vds, bds⟩ := F.binds1 (ps := ["value", "low", "high"]) 2 0 (by intro z; cases z) rfl (fun _ _ _ _ _ _ _ us its hl hi => match us, its, hl, hi with | [_, _], [_], _, _ => ⟨_, rfl, rfl⟩)
  exact ⟨⟨_, fd, ["value", "low", "high"], ds, ok_check_number L F, L.g_check_number, F.kp, bds, vds⟩⟩
theorem ok_check_size (L : Lw K mg) {fd : FuncData} (F : FunD K "check_size" "check_size" (defArgs s_check_size) (defBody s_check_size) (defScope s_check_size) (df_check_size.dvs K) (df_check_size.kws K) (He.fAd K ("check_size", none)) fd) : FnOk P w K mg base (L2N.CX P w) 3 (He.fAd K ("check_size", none)) fd (["things", "low", "high"] : List Str) (sp3 fs_cs) := by
  refine FunD.ok F sc_check_size len3 (fun cdv A outer s H vs Q E hr h => ?_)
  obtain ⟨a, b, c, rfl, h⟩ := h
  refine ⟨_, (pss_cons (ps_set (i := 3) sc_check_size.nd rfl (by first | exact Or.inl rfl | exact Or.inr rfl) (pe_callB (callK rLen1 (K := K) rfl o_len) (by rfl) L.f_len (by decide +kernel) (pa_cons (pv 0) pa_nil)))
    (pss_one (ps_if (PW.pt (pw_or (pt_cmpR o_lt (pv 3) (pv 1) (nomark _)) (pw_or1 (pt_cmpR o_gt (pv 3) (pv 2) (nomark _))))) (pss_one (L2N.ps_raise rfl (L2N.takes_of rfl rfl rfl rfl) (pmk_x (c_BadSizeD_initD (K := K) L) hr (by decide) passF (pa_cons (pv 3) pa_nil)))) pss_nil))), ?_⟩
  obtain ⟨p, xs, l, h, rfl, rfl, rfl, hp, h1, h2, k⟩ := h
  walk_at "zz"
  refine z_dF (by omega) ?_
  walk_at "zz"
  refine z_dF (by omega) ?_
  walk_at "zz"
  exact k
theorem c_check_size (L : Lw K mg) : Cal P w K mg base 3 "check_size" (sp3 fs_cs) [] := by
  obtain ⟨fd, F⟩ := L.d_check_size
  exact ⟨⟨_, fd, ["things", "low", "high"], [], ok_check_size L F, L.g_check_size, F.kp, F.bindsN (fun _ _ _ _ _ _ us hl => match us, hl with | [_, _, _], _ => rfl), .nil⟩⟩
end
def fs_low : F2 := fun a b H Q _ => ∃ (p : Addr) (ns : List Int) (o : Int), a = .ref p ∧ b = .int o ∧ H p = some (.lst (ns.map V.int)) ∧ ns.length ≤ 16777216 ∧ 1 ≤ o ∧ o < 18446744073709551616 ∧
  ∀ t q H' ls o', Same H H' → H' t = some (.tup [.ref q, .int o']) → H' q = some (.tup (ls.map V.int)) → S31.Low ns ls → Q (.ref t) H'
section
variable {P : Program} {w : World} {K : Frag} {mg : Str → Option Value} {base : Heap}
theorem ok_lowest_terms (L : Lw K mg) {fd : FuncData} (F : FunD K "lowest_terms" "lowest_terms" (defArgs s_lowest_terms) (defBody s_lowest_terms) (defScope s_lowest_terms) (df_lowest_terms.dvs K) (df_lowest_terms.kws K) (He.fAd K ("lowest_terms", none)) fd) : FnOk P w K mg base (L2N.CX P w) 1 (He.fAd K ("lowest_terms", none)) fd (["numbers", "over"] : List Str) (sp2 fs_low) := by
  refine FunD.ok F sc_lowest_terms len2 (fun cdv A outer s H vs Q E hr h => ?_)
  obtain ⟨a, b, rfl, h⟩ := h
  refine ⟨_, (pss_cons (ps_set (i := 2) sc_lowest_terms.nd rfl (by first | exact Or.inl rfl | exact Or.inr rfl) (pe_callB (callK rLen1 (K := K) rfl o_len) (by rfl) L.f_len (by decide +kernel) (pa_cons (pv 0) pa_nil)))
    (pss_cons (ps_while (passes_of rfl) (PW.pt (pw_and (pt_cmpR o_gt (pv 2) pe_int (nomark _)) (pw_and1 (pt_cmpR op_eq (pe_ix (ix_seqK (K := K) rfl) (pv 0) (pe_op o_sub (pv 2) pe_int) (fun _ _ => rfl)) pe_int (nomark _))))) (pss_one (ps_set (i := 2) sc_lowest_terms.nd rfl (by first | exact Or.inl rfl | exact Or.inr rfl) (pe_op o_sub (pv 2) pe_int))))
    (pss_cons (ps_if (pt_cmpR op_eq (pv 2) pe_int (nomark _)) (pss_one (ps_ret (pe_tup (pa_cons (pe_tup pa_nil) (pa_cons pe_int pa_nil))))) pss_nil)
    (pss_cons (ps_set (i := 3) sc_lowest_terms.nd rfl (by first | exact Or.inl rfl | exact Or.inr rfl) (pe_callB o_abs (by rfl) L.f_abs (by decide +kernel) (pa_cons (pv 1) pa_nil)))
    (pss_cons (ps_for (passes_of rfl) rfl (pi_listK (K := K) rfl (pe_slice (slK rSlL (K := K) rfl sl_list) (pv 0) po_none (po_some (pv 2)))) (pg_name (i := 4) sc_lowest_terms.nd rfl (by first | exact Or.inl rfl | exact Or.inr rfl)) (pss_one (ps_set (i := 3) sc_lowest_terms.nd rfl (by first | exact Or.inl rfl | exact Or.inr rfl) (pe_callBfun cr_gcd rfl L.v_gcd (pa_cons (pv 3) (pa_cons (pv 4) pa_nil))))))
    (pss_cons (ps_if (pt_cmpR o_lt (pv 1) pe_int (nomark _)) (pss_one (ps_set (i := 3) sc_lowest_terms.nd rfl (by first | exact Or.inl rfl | exact Or.inr rfl) (pe_un o_neg (pv 3)))) pss_nil)
    (pss_one (ps_ret (pe_tup (pa_cons (pe_callTy (callK rTup1 (K := K) rfl call_tuple_of) (by rfl) L.f_tuple (by decide +kernel) (pa_cons (pe_lc (own := [("number", 4)]) (g := (gName 4)) (tt := tYes) rfl sc_lowest_terms.nd (pi_listK (K := K) rfl (pe_slice (slK rSlL (K := K) rfl sl_list) (pv 0) po_none (po_some (pv 2)))) (blkOk_by (N := ["numbers", "over", "size", "common", "number"]) (sc := defScope s_lowest_terms) (by decide +kernel)) (fun _ _ _ _ _ => pg_name (i := 4) sc_lowest_terms.nd rfl (Or.inl rfl)) (fun _ _ _ _ _ => pts_nil) (fun _ _ _ _ _ => (pe_op o_div (pv 4) (pv 3)))) pa_nil)) (pa_cons (pe_op o_div (pv 1) (pv 3)) pa_nil))))))))))), ?_⟩
  obtain ⟨p, ns, o, rfl, rfl, hp, hl, o1, o2, k⟩ := h
  walk_at "zz"
  refine ⟨fun m σ' H' => ∃ s : Nat, σ' = [some (.ref p), some (.int o), some (.int s), none, none] ∧ H' = H ∧ m = s ∧ s ≤ ns.length ∧ ∀ k, s ≤ k → S31.cf ns k = 0, ⟨_, ns.length, ?_, rfl, rfl, Nat.le_refl _, fun k hk => S31.cf_out hk⟩, ?_⟩
  · rw [List.length_map]
    rfl
  rintro m σ' H' ⟨sz, rfl, rfl, em, hs, hz⟩
  walk_at "zz"
  refine z_d2 (fun c => ?_) (fun c => ?_)
  · have hs1 : (((sz : Nat) : Int) - 1).toNat = sz - 1 := by omega
    have hin : sz - 1 < ns.length := by omega
    walk_at "zz"
    refine z_ixL (SqL.of hp) (at_int (v := S31.cf ns (sz - 1)) (by omega) (by rw [hs1, S31.cf_in hin]; exact List.getElem?_eq_getElem hin)) ?_
    walk_at "zz"
    refine z_d2 (fun c2 => ?_) (fun c2 => ?_)
    · refine ⟨_, fun _ _ h => h, ?_⟩
      walk_at "zz"
      refine ⟨sz - 1, by omega, sz - 1, ?_, rfl, rfl, by omega, fun k hk => ?_⟩
      · have e : ((sz : Nat) : Int) - 1 = ((sz - 1 : Nat) : Int) := by omega
        rw [e]
        rfl
      · by_cases e : k = sz - 1
        · rw [e]
          exact c2
        · exact hz k (by omega)
    · walk_at "zz"
      refine z_dF (by omega) ?_
      walk_at "zz"
      have ho : ((o.natAbs : Nat) : Int) = o := by omega
      rw [ho]
      refine z_sll hp (fun p2 H2 hp2 s2 e2 => ?_)
      rw [cut_hi, ← List.map_take] at e2
      have g0 := fun k => S31.gl_pos (c := o) (by omega) ((ns.take sz).take k)
      refine z_foV e2 (fun k σ' H' => ∃ x, σ' = [some (.ref p), some (.int o), some (.int sz), some (.int (S31.gl o ((ns.take sz).take k))), x] ∧ H' = H2) ⟨none, by rw [List.take_zero]; rfl, rfl⟩ (fun k σ' H' z => by obtain ⟨x, _, rfl⟩ := z; exact e2) ?_ ?_
      · rintro k x σ' H' hx ⟨y, rfl, rfl⟩
        rw [List.getElem?_map] at hx
        have hk : k < (ns.take sz).length := by
          by_cases q : k < (ns.take sz).length
          · exact q
          · rw [List.getElem?_eq_none (by omega)] at hx
            cases hx
        rw [List.getElem?_eq_getElem hk] at hx
        have hx' : V.int (ns.take sz)[k] = x := Option.some.inj hx
        subst hx'
        walk_at "zz"
        refine ⟨some (.int (ns.take sz)[k]), ?_, rfl⟩
        rw [List.take_succ_eq_append_getElem hk, S31.gl_snoc]
        rfl
      · rintro σ' H' ⟨x, rfl, rfl⟩
        have gg := g0 (((ns.take sz).map V.int).length)
        walk_at "zz"
        have el : (ns.take sz).take ((ns.take sz).map V.int).length = ns.take sz := by
          rw [List.length_map, List.take_length]
        rw [el] at gg ⊢
        refine z_dF (by omega) ?_
        walk_at "zz"
        refine z_sll (s2 _ _ hp) (fun p3 H3 hp3 s3 e3 => ?_)
        rw [cut_hi, ← List.map_take] at e3
        refine z_lcI (fun n => V.int (n / S31.gl o (ns.take sz))) e3 (by rw [List.length_take]; omega) (fun n H4 N hn s4 c4 => ⟨rfl, ?_⟩) (fun D HD hD sD hl => ?_)
        · walk_at "zz"
          exact c4 _ (fun _ _ h => h)
        · walk_at "zz"
          refine z_tup1L hl (fun t Ht ht st et => ?_)
          walk_at "zz"
          have hm : (ns.take sz).map (fun n => V.int (n / S31.gl o (ns.take sz))) = ((ns.take sz).map fun n => n / S31.gl o (ns.take sz)).map V.int := by rw [List.map_map]; rfl
          rw [hm] at et
          exact k _ _ _ _ _ (by walk_at "sm") (by assumption) (by walk_at "up") (S31.low_of (by omega) hs hz)
  · have s0 : sz = 0 := by omega
    subst s0
    walk_at "zz"
    refine z_dT rfl ?_
    walk_at "zz"
    exact k _ _ _ [] _ (by walk_at "sm") (by assumption) (by walk_at "up") ⟨Nat.zero_le _, 1, by decide, fun k => by rw [hz k (Nat.zero_le _), S31.cf_nil]; rfl⟩
theorem c_lowest_terms (L : Lw K mg) : Cal P w K mg base 1 "lowest_terms" (sp2 fs_low) [] := by
  obtain ⟨fd, F⟩ := L.d_lowest_terms
  exact ⟨⟨_, fd, ["numbers", "over"], [], ok_lowest_terms L F, L.g_lowest_terms, F.kp, F.bindsN (fun _ _ _ _ _ _ us hl => match us, hl with | [_, _], _ => rfl), .nil⟩⟩
end
def IsP (K : Frag) (H : Hp) (p : Addr) (ls : List Int) : Prop := ∃ (dx t : Addr) (o d : Int), H p = some (.ins (He.ga K "Poly") dx [("numbers", .ref t), ("over", .int o), ("degree", .int d)]) ∧ H t = some (.tup (ls.map V.int))
theorem IsP.mono {K : Frag} {H H' : Hp} {p : Addr} {ls : List Int} (s : Same H H') (h : IsP K H p ls) : IsP K H' p ls := by
  obtain ⟨dx, t, o, d, h1, h2⟩ := h
  exact ⟨dx, t, o, d, s _ _ h1, s _ _ h2⟩
def fs_pinit (K : Frag) : F3 := fun a b c H Q _ => ∃ (x dx q : Addr) (H0 : Hp) (ns : List Int) (o : Int), a = .ref x ∧ b = .ref q ∧ c = .int o ∧ H = upd (upd H0 dx (.own x)) x (.ins (He.ga K "Poly") dx []) ∧ H0 x = none ∧ H0 dx = none ∧ dx ≠ x ∧
  H0 q = some (.lst (ns.map V.int)) ∧ ns.length ≤ 200 ∧ 1 ≤ o ∧ o < 18446744073709551616 ∧ ∀ H' ls, Same H0 H' → IsP K H' x ls → S31.Low ns ls → Q .non H'
section
variable {P : Program} {w : World} {K : Frag} {mg : Str → Option Value} {base : Heap}
theorem ok_PolyD_initD (L : Lw K mg) {fd : FuncData} (F : FunD K "__init__" "Poly.__init__" (defArgs s_PolyD_initD) (defBody s_PolyD_initD) (defScope s_PolyD_initD) (df_PolyD_initD.dvs K) (df_PolyD_initD.kws K) (He.fAd K ("Poly", some "__init__")) fd) : FnOk P w K mg base (L2N.CX P w) 4 (He.fAd K ("Poly", some "__init__")) fd (["self", "numbers", "over"] : List Str) (sp3 (fs_pinit K)) := by
  refine FunD.ok F sc_PolyD_initD len3 (fun cdv A outer s H vs Q E hr h => ?_)
  obtain ⟨a, b, c, rfl, h⟩ := h
  refine ⟨_, (pss_cons (ps_expr (pe_c (c_check_size (K := K) L) hr (by decide) (L2N.takes_of rfl rfl rfl rfl) (pa_cons (pv 1) (pa_cons pe_int (pa_cons pe_int pa_nil)))))
    (pss_cons (ps_expr (pe_c (c1_check_number (K := K) L) hr (by decide) (L2N.takes_of rfl rfl rfl rfl) (pa_cons (pv 2) (pa_cons pe_int pa_nil))))
    (pss_cons (ps_asg (pe_c (c_lowest_terms (K := K) L) hr (by decide) (L2N.takes_of rfl rfl rfl rfl) (pa_cons (pv 1) (pa_cons (pv 2) pa_nil))) (pg_tup (by rfl) (pgs_cons (pg_attK (K := K) rfl (pv 0)) (pgs_cons (pg_attK (K := K) rfl (pv 0)) pgs_nil))))
    (pss_one (ps_fld (pv 0) (pe_op o_sub (pe_callB (callK rLen1 (K := K) rfl o_len) (by rfl) L.f_len (by decide +kernel) (pa_cons (pe_fld (pv 0) rfl) pa_nil)) pe_int) rfl))))), ?_⟩
  obtain ⟨x, dx, q, H0, ns, o, rfl, rfl, rfl, rfl, hx, hdx, ne, hq, hl, o1, o2, k⟩ := h
  have sm : Same H0 (upd (upd H0 dx (.own x)) x (.ins (He.ga K "Poly") dx [])) := (Same.put (Same.new hdx) hx)
  have hq' := sm _ _ hq
  have hxx : upd (upd H0 dx (.own x)) x (.ins (He.ga K "Poly") dx []) x = some (.ins (He.ga K "Poly") dx []) := upd_same
  generalize upd (upd H0 dx (.own x)) x (.ins (He.ga K "Poly") dx []) = H at *
  walk_at "zz"
  refine ⟨_, _, _, rfl, q, _, 0, 200, rfl, rfl, rfl, hq', by omega, by rw [List.length_map]; omega, ?_⟩
  walk_at "zz"
  refine ⟨_, _, _, rfl, o, 1, rfl, rfl, .inl rfl, fun _ => ?_, fun z => absurd ⟨o1, fun h e => by cases e⟩ z⟩
  walk_at "zz"
  refine ⟨_, _, rfl, q, ns, o, rfl, rfl, hq', by omega, o1, o2, fun t u H1 ls o' s1 et eu lw => ?_⟩
  walk_at "zz"
  refine z_gfld L.cl_Poly L.na_Poly_numbers rfl (s1 _ _ hxx) (by decide) ?_
  walk_at "zz"
  refine z_gfld L.cl_Poly L.na_Poly_over rfl upd_same (by show 1 < 1000; decide) ?_
  rw [pfN]
  have e1 : putF "over" (.int o') [("numbers", .ref u)] = [(("numbers" : Str), V.ref u), ("over", .int o')] := by
    rw [pfB (by decide +kernel), pfN]
  rw [e1]
  have sx : Same H0 (upd (upd H1 x (.ins (He.ga K "Poly") dx [("numbers", .ref u)])) x (.ins (He.ga K "Poly") dx [("numbers", .ref u), ("over", .int o')])) := Same.put (Same.put (sm.trans s1) hx) hx
  have ux : u ≠ x := fun e => by
    rw [e, s1 _ _ hxx] at eu
    cases eu
  have eu2 : (upd (upd H1 x (.ins (He.ga K "Poly") dx [("numbers", .ref u)])) x (.ins (He.ga K "Poly") dx [("numbers", .ref u), ("over", .int o')])) u = some (.tup (ls.map V.int)) := by
    rw [upd_ne ux, upd_ne ux]
    exact eu
  have ex2 : (upd (upd H1 x (.ins (He.ga K "Poly") dx [("numbers", .ref u)])) x (.ins (He.ga K "Poly") dx [("numbers", .ref u), ("over", .int o')])) x = some (.ins (He.ga K "Poly") dx [("numbers", .ref u), ("over", .int o')]) := upd_same
  generalize (upd (upd H1 x (.ins (He.ga K "Poly") dx [("numbers", .ref u)])) x (.ins (He.ga K "Poly") dx [("numbers", .ref u), ("over", .int o')])) = H2 at *
  walk_at "zz"
  refine z_fldG L.cl_Poly L.na_Poly_numbers rfl ex2 lkA ?_
  walk_at "zz"
  refine z_lenT eu2 ?_
  walk_at "zz"
  refine z_sflp L.cl_Poly L.na_Poly_degree rfl ex2 (by show 2 < 1000; decide) ?_
  rw [pfB (by decide +kernel), pfB (by decide +kernel), pfN]
  walk_at "zz"
  refine k _ ls (Same.put sx hx) ⟨dx, u, o', _, upd_same, ?_⟩ lw
  rw [upd_ne ux]
  exact eu2
theorem c_PolyD_initD (L : Lw K mg) : Mak P w K mg base 4 "Poly" (He.ga K "Poly") (sp3 (fs_pinit K)) [] := by
  obtain ⟨fd, F⟩ := L.d_PolyD_initD
  obtain ⟨ds, vds, bds⟩ := F.binds1 (ps := ["self", "numbers", "over"]) 3 1 (by intro z; cases z) rfl (fun _ _ _ _ _ _ _ us its hl hi => match us, its, hl, hi with | [_, _, _], [_], _, _ => ⟨_, rfl, rfl⟩)
  exact ⟨⟨_, fd, ["self", "numbers", "over"], ds, L.mk_Poly, ok_PolyD_initD L F, L.g_Poly, bds, vds⟩⟩
theorem c1_PolyD_initD (L : Lw K mg) : Mak P w K mg base 4 "Poly" (He.ga K "Poly") (sp3 (fs_pinit K)) [V.int 1] := by
  obtain ⟨fd, F⟩ := L.d_PolyD_initD
  obtain ⟨ds, vds, bds⟩ := F.binds1 (ps := ["self", "numbers", "over"]) 2 0 (by intro z; cases z) rfl (fun _ _ _ _ _ _ _ us its hl hi => match us, its, hl, hi with | [_, _], [_], _, _ => ⟨_, rfl, rfl⟩)
  exact ⟨⟨_, fd, ["self", "numbers", "over"], ds, L.mk_Poly, ok_PolyD_initD L F, L.g_Poly, bds, vds⟩⟩
end
def oV : Option Nat → V
  | none => .non
  | some n => .int n
def fs_lp (K : Frag) : F2 := fun a b H Q E => ∃ (p : Addr) (ls : List Int) (m : Int), a = .ref p ∧ b = .int m ∧ IsP K H p ls ∧ ls.length ≤ 200 ∧
  ((0 ≤ m ∧ m ≤ 300) → ∀ r H', Same H H' → S31.LP (S31.cf ls) m.toNat r → Q (oV r) H') ∧ (¬ (0 ≤ m ∧ m ≤ 300) → ∀ d H', Same H H' → H' d = some (.xd [("value", .int m)]) → E (.ref (He.ga K "OutOfBounds")) (some d) H')
section
variable {P : Program} {w : World} {K : Frag} {mg : Str → Option Value} {base : Heap}
theorem ok_least_power (L : Lw K mg) {fd : FuncData} (F : FunD K "least_power" "least_power" (defArgs s_least_power) (defBody s_least_power) (defScope s_least_power) (df_least_power.dvs K) (df_least_power.kws K) (He.fAd K ("least_power", none)) fd) : FnOk P w K mg base (L2N.CX P w) 4 (He.fAd K ("least_power", none)) fd (["poly", "most"] : List Str) (sp2 (fs_lp K)) := by
  refine FunD.ok F sc_least_power len2 (fun cdv A outer s H vs Q E hr h => ?_)
  obtain ⟨a, b, rfl, h⟩ := h
  refine ⟨_, (pss_cons (ps_expr (pe_c (c_check_number (K := K) L) hr (by decide) (L2N.takes_of rfl rfl rfl rfl) (pa_cons (pv 1) (pa_cons pe_int (pa_cons pe_int pa_nil)))))
    (pss_cons (ps_set (i := 2) sc_least_power.nd rfl (by first | exact Or.inl rfl | exact Or.inr rfl) (pe_callTy (callK rList1 (K := K) rfl o_list1) (by rfl) L.f_list (by decide +kernel) (pa_cons (pe_fld (pv 0) rfl) pa_nil)))
    (pss_cons (ps_for (passes_of rfl) rfl (pi_range1 (by rfl) L.f_range (pa_cons (pe_op o_cat (pv 1) pe_int) pa_nil)) (pg_name (i := 3) sc_least_power.nd rfl (by first | exact Or.inl rfl | exact Or.inr rfl)) (pss_cons (ps_if (pt_not (pt_val (pe_callB (callK rAny (K := K) rfl (cr_any rfl)) (by rfl) L.f_any (by decide +kernel) (pa_cons (pe_lc (own := [("number", 4)]) (g := (gName 4)) (tt := tYes) rfl sc_least_power.nd (pi_listK (K := K) rfl (pv 2)) (blkOk_by (N := ["poly", "most", "numbers", "power", "number", "first", "second"]) (sc := defScope s_least_power) (by decide +kernel)) (fun _ _ _ _ _ => pg_name (i := 4) sc_least_power.nd rfl (Or.inl rfl)) (fun _ _ _ _ _ => pts_nil) (fun _ _ _ _ _ => (pe_cmpR o_lt (pv 4) pe_int (nomark _)))) pa_nil)))) (pss_one (ps_ret (pv 3))) pss_nil)
    (pss_one (ps_setLc (i := 2) (own := [("first", 5), ("second", 6)]) (g := (gTup K 2 (gCons (gName 5) (gCons (gName 6) gNil)))) (tt := tYes) rfl sc_least_power.nd rfl rfl (sw_true rfl rfl rfl (by decide +kernel)) (piK (fun K => iZip K _) (K := K) rfl (pi_zip (by rfl) L.f_zip (pa_cons (pe_op o_cat (pe_lst (pa_cons pe_int pa_nil)) (pv 2)) (pa_cons (pe_op o_cat (pv 2) (pe_lst (pa_cons pe_int pa_nil))) pa_nil)))) (blkOk_by (N := ["poly", "most", "numbers", "power", "number", "first", "second"]) (sc := defScope s_least_power) (by decide +kernel)) (fun _ _ _ _ _ => pgK (fun K => gTup K 2 (gCons (gName 5) (gCons (gName 6) gNil))) (K := K) rfl (pg_tup rfl (pgs_cons (pg_name (i := 5) sc_least_power.nd rfl (Or.inl rfl)) (pgs_cons (pg_name (i := 6) sc_least_power.nd rfl (Or.inl rfl)) pgs_nil)))) (fun _ _ _ _ _ => pts_nil) (fun _ _ _ _ _ => (pe_op o_cat (pv 5) (pv 6)))))))
    (pss_one (ps_ret pe_non))))), ?_⟩
  obtain ⟨p, ls, m, rfl, rfl, ⟨dx, t, o, d, h1, h2⟩, hl, k, kx⟩ := h
  walk_at "zz"
  refine ⟨_, _, _, rfl, m, 0, rfl, rfl, .inr ⟨300, rfl⟩, fun c => ?_, fun z => kx (fun w => z ⟨w.1, fun h e => by cases e; exact w.2⟩)⟩
  have m0 : 0 ≤ m := c.1
  have m1 : m ≤ 300 := c.2 300 rfl
  have k' := k ⟨m0, m1⟩
  walk_at "zz"
  refine z_fldG L.cl_Poly L.na_Poly_numbers rfl h1 lkA ?_
  walk_at "zz"
  refine z_listT h2 (fun q H1 hq s1 e1 => ?_)
  walk_at "zz"
  refine z_foR (by omega) (by omega) (fun k σ' H' => ∃ (q : Addr) (ns : List Int) (x1 x2 x3 x4 : Option V), σ' = [some (.ref p), some (.int m), some (.ref q), x1, x2, x3, x4] ∧ Same H H' ∧ H' q = some (.lst (ns.map V.int)) ∧ ns.length = ls.length + k ∧ (∀ j, S31.cf ns j = S31.tpn (S31.cf ls) k j) ∧ ∀ j, j < k → ¬ S31.NN (S31.cf ls) j) ⟨q, ls, _, _, _, _, rfl, s1, e1, rfl, fun _ => rfl, fun j hj => absurd hj (Nat.not_lt_zero _)⟩ ?_ ?_
  · rintro k σ' H' hk ⟨q, ns, x1, x2, x3, x4, rfl, sH, hq, hlen, hcf, hno⟩
    walk_at "zz"
    refine z_lcI (fun n => V.bl (decide (n < 0))) hq (by omega) (fun n H4 N hn s4 c4 => ⟨rfl, ?_⟩) (fun D HD hD sD hlD => ?_)
    · walk_at "zz"
      exact c4 _ (fun _ _ h => h)
    have eb : ns.map (fun n => V.bl (decide (n < 0))) = (ns.map fun n => decide (n < 0)).map V.bl := by rw [List.map_map]; rfl
    rw [eb] at hlD
    walk_at "zz"
    refine z_anyB hlD ?_
    walk_at "zz"
    refine z_b2 (fun hb => ?_) (fun hb => ?_)
    · have hn : ¬ S31.NN (S31.cf ls) k := fun z => by
        have := (S31.nn_list hcf).mp z
        simp at hb
        obtain ⟨v, hv, hv2⟩ := hb
        have := this v hv
        omega
      walk_at "zz"
      rename_i pz Hz hpz sz ez pc Hc hpc sc ec po Ho hpo so eo pd Hd hpd sd ed
      have e2 : ns.map V.int ++ [V.int 0] = (ns ++ [0]).map V.int := by simp
      rw [e2] at ed
      refine z_lcZ (ns := 0 :: ns) (ms := ns ++ [0]) (fun a b => V.int (a + b)) (by walk_at "up") ed (by simp) (by simp; omega) (fun n m H5 N s5 c5 => ⟨rfl, ?_⟩) (fun D2 HD2 hD2 sD2 hl2 => ?_)
      · walk_at "zz"
        exact c5 _ (fun _ _ h => h)
      · walk_at "zz"
        have e3 : List.zipWith (fun a b => V.int (a + b)) (0 :: ns) (ns ++ [0]) = (S31.stp ns).map V.int := by
          unfold S31.stp
          rw [List.map_zipWith]
        rw [e3] at hl2
        refine ⟨D2, S31.stp ns, _, _, _, _, rfl, by walk_at "sm", hl2, by rw [S31.stp_len]; omega, fun j => ?_, fun j hj => ?_⟩
        · rw [S31.cf_stp]
          exact S31.tp_congr hcf j
        · by_cases e : j = k
          · rw [e]
            exact hn
          · exact hno j (by omega)
    · walk_at "zz"
      exact k' (some k) _ (by walk_at "sm") (.inr ⟨k, by omega, rfl, (S31.nn_list hcf).mpr (fun v hv => by
        simp at hb
        exact hb v hv), hno⟩)
  · rintro σ' H' ⟨q, ns, x1, x2, x3, x4, rfl, sH, hq, hlen, hcf, hno⟩
    walk_at "zz"
    exact k' none _ sH (.inl ⟨rfl, fun j hj => hno j (by omega)⟩)
theorem c_least_power (L : Lw K mg) : Cal P w K mg base 4 "least_power" (sp2 (fs_lp K)) [] := by
  obtain ⟨fd, F⟩ := L.d_least_power
  exact ⟨⟨_, fd, ["poly", "most"], [], ok_least_power L F, L.g_least_power, F.kp, F.bindsN (fun _ _ _ _ _ _ us hl => match us, hl with | [_, _], _ => rfl), .nil⟩⟩
end
end T

set_option maxHeartbeats 4000000
namespace T
open PySem PySem.Spec PyProof.Rows L2 Z
/-! the readings' steps, as one word: walk_at "z" (one step), "zz" (as far as it goes), "up" (a fact carried here) -/
local macro_rules | `(tactic| walk_at "up") => `(tactic| first
  | assumption
  | (refine' IsR.mono (by assumption) ?zup; case zup => walk_at "up")
  | (refine' IsE.mono (by assumption) ?zup; case zup => walk_at "up")
  | (refine' Same.at (by assumption) ?zup; case zup => walk_at "up")
  | (refine' SqL.of ?zup; case zup => walk_at "up")
  | (refine' L2.Same.seq (by assumption) ?zup; case zup => walk_at "up"))
local macro_rules | `(tactic| walk_at "z") => `(tactic| first
  | ((with_reducible refine' z_var ?zvh ?_); (case zvh => exact rfl))
  | with_reducible refine z_c ?_
  | with_reducible refine z_cons ?_
  | with_reducible refine z_nil ?_
  | with_reducible refine z_op ?_
  | with_reducible refine z_nx ?_
  | with_reducible refine z_seq ?_
  | with_reducible refine z_asg ?_
  | with_reducible refine z_asgG ?_
  | with_reducible refine z_call ?_
  | with_reducible refine z_sq0 ?_
  | with_reducible refine z_sq1 ?_
  | with_reducible refine z_ifS ?_
  | with_reducible refine z_test ?_
  | with_reducible refine z_tb ?_
  | with_reducible refine z_bl ?_
  | with_reducible refine z_blI ?_
  | with_reducible refine z_ret ?_
  | with_reducible refine z_rt ?_
  | with_reducible refine z_T ?_
  | with_reducible refine z_F ?_
  | with_reducible refine z_add ?_
  | with_reducible refine z_sub ?_
  | with_reducible refine z_neg ?_
  | with_reducible refine z_un ?_
  | with_reducible refine z_eqI ?_
  | with_reducible refine z_neI ?_
  | with_reducible refine z_lt ?_
  | with_reducible refine z_le ?_
  | with_reducible refine z_gt ?_
  | with_reducible refine z_ge ?_
  | with_reducible refine z_not ?_
  | with_reducible refine z_and ?_
  | with_reducible refine z_or ?_
  | with_reducible refine z_andV ?_
  | with_reducible refine z_orV ?_
  | with_reducible refine z_notV ?_
  | with_reducible refine z_if ?_
  | with_reducible refine z_cb ?_
  | with_reducible refine z_int1 ?_
  | with_reducible refine z_intb ?_
  | with_reducible refine z_abs ?_
  | with_reducible refine z_gcd ?_
  | with_reducible refine z_isi_ii ?_
  | with_reducible refine z_isi_ib ?_
  | with_reducible refine z_next ?_
  | with_reducible refine z_drop ?_
  | with_reducible refine z_par ?_
  | with_reducible refine z_par2 ?_
  | with_reducible refine z_tupN ?_
  | with_reducible refine z_lstN ?_
  | ((with_reducible refine' z_nt ?zl1 ?_); (case zl1 => exact Nat.le_of_ble_eq_true rfl); intro p H' hp hs he)
  | ((with_reducible refine' z_gtup ?zl1 ?zl2 ?_); (case zl1 => walk_at "up"); (case zl2 => exact rfl))
  | with_reducible refine z_bk ?_
  | with_reducible refine z_ct ?_
  | with_reducible refine z_break ?_
  | with_reducible refine z_cont ?_
  | with_reducible refine z_retN ?_
  | with_reducible refine z_nn ?_
  | with_reducible refine z_mk ?_
  | with_reducible refine z_gn ?_
  | with_reducible refine z_gcons ?_
  | with_reducible refine z_gnil ?_
  | with_reducible refine z_mt ?_
  | with_reducible refine z_mko ?_
  | with_reducible refine z_for2 ?_
  | with_reducible refine z_ownI ?_
  | ((with_reducible refine' z_lenL ?zl1 ?_); (case zl1 => walk_at "up"))
  | ((with_reducible refine' z_ixT ?zl1 ?zl2 ?_); (case zl1 => walk_at "up"); (case zl2 => exact rfl))
  | ((with_reducible refine' z_mulL ?zl1 ?zl2 ?_); (case zl1 => omega); (case zl2 => omega))
  | ((with_reducible refine' z_mulR ?zl1 ?zl2 ?_); (case zl1 => omega); (case zl2 => omega))
  | ((with_reducible refine' z_divS ?zl1 ?zl2 ?_); (case zl1 => omega); (case zl2 => omega))
  | ((with_reducible refine' z_mulW ?zl1 ?zl2 ?zl3 ?zl4 ?_); (case zl1 => omega); (case zl2 => omega); (case zl3 => omega); (case zl4 => omega))
  | ((with_reducible refine' z_divW ?zl1 ?zl2 ?_); (case zl1 => omega); (case zl2 => omega)))
local macro_rules | `(tactic| walk_at "zz") => `(tactic| repeat (walk_at "z"))
local macro_rules | `(tactic| walk_at "z") => `(tactic| with_reducible refine z_lstN ?_)
local macro_rules | `(tactic| walk_at "z") => `(tactic| with_reducible refine z_p6 ?_)
local macro_rules | `(tactic| walk_at "z") => `(tactic| with_reducible refine z_p12 ?_)
local macro_rules | `(tactic| walk_at "z") => `(tactic| with_reducible refine z_p13 ?_)
local macro_rules | `(tactic| walk_at "z") => `(tactic| with_reducible refine z_calln ?_)
local macro_rules | `(tactic| walk_at "z") => `(tactic| with_reducible refine z_xfS ?_)
local macro_rules | `(tactic| walk_at "z") => `(tactic| with_reducible refine z_lcS ?_)
local macro_rules | `(tactic| walk_at "z") => `(tactic| with_reducible refine z_lcRS ?_)
local macro_rules | `(tactic| walk_at "z") => `(tactic| with_reducible refine z_lcZS ?_)
local macro_rules | `(tactic| walk_at "z") => `(tactic| with_reducible refine z_foS ?_)
local macro_rules | `(tactic| walk_at "z") => `(tactic| with_reducible refine z_for1 ?_)
local macro_rules | `(tactic| walk_at "z") => `(tactic| with_reducible refine z_tsl ?_)
local macro_rules | `(tactic| walk_at "z") => `(tactic| with_reducible refine z_np ?_)
local macro_rules | `(tactic| walk_at "z") => `(tactic| with_reducible refine z_pt ?_)
local macro_rules | `(tactic| walk_at "z") => `(tactic| with_reducible refine z_pti ?_)
local macro_rules | `(tactic| walk_at "z") => `(tactic| with_reducible refine z_catI ?_)
local macro_rules | `(tactic| walk_at "z") => `(tactic| with_reducible refine z_isNI ?_)
local macro_rules | `(tactic| walk_at "z") => `(tactic| with_reducible refine z_isNN ?_)
local macro_rules | `(tactic| walk_at "z") => `(tactic| with_reducible refine z_notNI ?_)
local macro_rules | `(tactic| walk_at "z") => `(tactic| with_reducible refine z_notNN ?_)
local macro_rules | `(tactic| walk_at "z") => `(tactic| with_reducible refine z_gsub ?_)
local macro_rules | `(tactic| walk_at "z") => `(tactic| with_reducible refine z_isNb ?_)
local macro_rules | `(tactic| walk_at "z") => `(tactic| with_reducible refine z_notNb ?_)
local macro_rules | `(tactic| walk_at "z") => `(tactic| ((with_reducible refine' z_nlR ?zl1 ?_); (case zl1 => exact Nat.le_of_ble_eq_true rfl); intro p H' hp hs he))
local macro_rules | `(tactic| walk_at "z") => `(tactic| ((with_reducible refine' z_repR ?zl1 ?zl2 ?_); (case zl1 => omega); (case zl2 => omega)))
local macro_rules | `(tactic| walk_at "z") => `(tactic| ((with_reducible refine' z_repL ?zl1 ?zl2 ?_); (case zl1 => omega); (case zl2 => omega)))
local macro_rules | `(tactic| walk_at "z") => `(tactic| ((with_reducible refine' z_lenLst ?zl1 ?_); (case zl1 => walk_at "up")))
local macro_rules | `(tactic| walk_at "z") => `(tactic| ((with_reducible refine' z_cat ?zl1 ?zl2 ?zl3 ?_); (case zl1 => walk_at "up"); (case zl2 => walk_at "up"); (case zl3 => (simp only [List.length_map, List.length_cons, List.length_nil, List.length_append, List.length_replicate]; omega)); intro p H' hp hs he))
local macro_rules | `(tactic| walk_at "z") => `(tactic| with_reducible refine z_sfl ?_)
theorem sameC {H H1 H2 : Hp} (h : Same H1 H2) (e : Same H H1) : Same H H2 := e.trans h
local macro_rules | `(tactic| walk_at "sm") => `(tactic| first
  | assumption
  | exact fun _ _ h => h
  | (refine' sameC (by assumption) ?zsm; case zsm => walk_at "sm"))
local macro_rules | `(tactic| walk_at "up") => `(tactic| first
  | assumption
  | (refine' IsPool.mono (by assumption) ?zup; case zup => walk_at "up")
  | (refine' IsP.mono (by assumption) ?zup; case zup => walk_at "up")
  | (refine' Same.at (by assumption) ?zup; case zup => walk_at "up")
  | (refine' But.at (by assumption) ?zne ?zup; (case zne => (first | assumption | exact Ne.symm (by assumption))); (case zup => walk_at "up"))
  | (refine' IsPool.of ?zup; case zup => walk_at "up"))
local macro_rules | `(tactic| walk_at "bt") => `(tactic| first
  | assumption
  | exact fun _ _ _ h => h
  | (refine' But.trans ?zsm (by assumption); case zsm => walk_at "bt")
  | (refine' But.trans ?zsm (But.of (by assumption)); case zsm => walk_at "bt"))

def fs_take : F3 := fun a b c H Q _ => ∃ (p : Addr) (k m : Int), a = .ref p ∧ b = .int k ∧ c = .int m ∧ IsPool H p ∧ 0 ≤ k ∧ 1 ≤ m ∧ m < 18446744073709551616 ∧ ∀ r H', 0 ≤ r → r < m → IsPool H' p → But p H H' → Q (.int r) H'
theorem u_take {p : Addr} {k m : Int} {H : Hp} {Q : VK} {E : XK} (h : IsPool H p) (h0 : 0 ≤ k) (h1 : 1 ≤ m) (h2 : m < 18446744073709551616) (q : ∀ r H', 0 ≤ r → r < m → IsPool H' p → But p H H' → Q (.int r) H') : sp3 fs_take [.ref p, .int k, .int m] H Q E := ⟨_, _, _, rfl, p, k, m, rfl, rfl, rfl, h, h0, h1, h2, q⟩
section
variable {P : Program} {w : World} {K : Frag} {mg : Str → Option Value} {base : Heap}
theorem ok_law_take (L : Lw K mg) {fd : FuncData} (F : FunD K "_law_take" "_law_take" (defArgs s_law_take) (defBody s_law_take) (defScope s_law_take) (df_law_take.dvs K) (df_law_take.kws K) (He.fAd K ("_law_take", none)) fd) : FnOk P w K mg base (L2N.CX P w) 1 (He.fAd K ("_law_take", none)) fd (["pool", "k", "many"] : List Str) (sp3 fs_take) := by
  refine FunD.ok F sc_law_take len3 (fun cdv A outer s H vs Q E hr h => ?_)
  obtain ⟨a, b, c, rfl, h⟩ := h
  refine ⟨_, (pss_cons (ps_if (pt_cmpR o_ge (pv 1) (pe_callB (callK rLen1 (K := K) rfl o_len) (by rfl) L.f_len (by decide +kernel) (pa_cons (pv 0) pa_nil)) (nomark _)) (pss_one (ps_ret pe_int)) pss_nil)
    (pss_cons (ps_set (i := 3) sc_law_take.nd rfl (by first | exact Or.inl rfl | exact Or.inr rfl) (pe_ix (ix_seqK (K := K) rfl) (pv 0) (pv 1) (fun _ _ => rfl)))
    (pss_cons (ps_asg (pe_op o_div (pv 3) (pv 2)) (pg_sub (pv 0) (pv 1) set_list))
    (pss_one (ps_ret (pe_op o_mod (pe_callTy o_int1 (by rfl) L.f_int (by decide +kernel) (pa_cons (pv 3) pa_nil)) (pv 2))))))), ?_⟩
  obtain ⟨p, k, m, rfl, rfl, rfl, ⟨ns, hp⟩, h0, h1, h2, q⟩ := h
  walk_at "zz"
  refine z_d2 (fun c => ?_) (fun c => ?_)
  · walk_at "zz"
    exact q 0 _ (by omega) (by omega) ⟨ns, hp⟩ (fun _ _ _ h => h)
  · rw [List.length_map] at c
    walk_at "zz"
    refine z_ixC hp h0 (by omega) ?_
    walk_at "zz"
    refine z_setL (j := k.toNat) hp (by omega) (by rw [List.length_map]; omega) ?_
    rw [set_int]
    walk_at "zz"
    refine z_mod (by omega) ?_
    exact q _ _ (Int.emod_nonneg _ (by omega)) (Int.emod_lt_of_pos _ (by omega)) ⟨_, upd_same⟩ But.set
theorem c_law_take (L : Lw K mg) : Cal P w K mg base 1 "_law_take" (sp3 fs_take) [] := by
  obtain ⟨fd, F⟩ := L.d_law_take
  exact ⟨⟨_, fd, ["pool", "k", "many"], [], ok_law_take L F, L.g_law_take, F.kp, F.bindsN (fun _ _ _ _ _ _ us hl => match us, hl with | [_, _, _], _ => rfl), .nil⟩⟩
end
local macro_rules | `(tactic| walk_at "z") => `(tactic| ((with_reducible refine' u_take ?zl1 ?zl2 ?zl3 ?zl4 ?_); (case zl1 => walk_at "up"); (case zl2 => omega); (case zl3 => omega); (case zl4 => omega); intro r H' r0 r1 hP hB))

def fs_turn : F4 := fun a b c d H Q _ => ∃ (p : Addr) (k m f : Int), a = .ref p ∧ b = .int k ∧ c = .int m ∧ d = .int f ∧ IsPool H p ∧ 0 ≤ k ∧ 1 ≤ m ∧ m < 18446744073709551616 ∧ ∀ r H', 0 ≤ r → r < m → IsPool H' p → But p H H' → Q (.int r) H'
theorem u_turn {p : Addr} {k m f : Int} {H : Hp} {Q : VK} {E : XK} (h : IsPool H p) (h0 : 0 ≤ k) (h1 : 1 ≤ m) (h2 : m < 18446744073709551616) (q : ∀ r H', 0 ≤ r → r < m → IsPool H' p → But p H H' → Q (.int r) H') : sp4 fs_turn [.ref p, .int k, .int m, .int f] H Q E := ⟨_, _, _, _, rfl, p, k, m, f, rfl, rfl, rfl, rfl, h, h0, h1, h2, q⟩
section
variable {P : Program} {w : World} {K : Frag} {mg : Str → Option Value} {base : Heap}
theorem ok_law_turn (L : Lw K mg) {fd : FuncData} (F : FunD K "_law_turn" "_law_turn" (defArgs s_law_turn) (defBody s_law_turn) (defScope s_law_turn) (df_law_turn.dvs K) (df_law_turn.kws K) (He.fAd K ("_law_turn", none)) fd) : FnOk P w K mg base (L2N.CX P w) 2 (He.fAd K ("_law_turn", none)) fd (["pool", "k", "many", "far"] : List Str) (sp4 fs_turn) := by
  refine FunD.ok F sc_law_turn len4 (fun cdv A outer s H vs Q E hr h => ?_)
  obtain ⟨a, b, c, d, rfl, h⟩ := h
  refine ⟨_, (pss_one (ps_ret (pe_op o_mod (pe_callTy o_int1 (by rfl) L.f_int (by decide +kernel) (pa_cons (pe_op o_cat (pe_c (c_law_take (K := K) L) hr (by decide) (L2N.takes_of rfl rfl rfl rfl) (pa_cons (pv 0) (pa_cons (pv 1) (pa_cons (pv 2) pa_nil)))) (pv 3)) pa_nil)) (pv 2)))), ?_⟩
  obtain ⟨p, k, m, f, rfl, rfl, rfl, rfl, hP, h0, h1, h2, q⟩ := h
  walk_at "zz"
  refine z_mod (by omega) ?_
  exact q _ _ (Int.emod_nonneg _ (by omega)) (Int.emod_lt_of_pos _ (by omega)) (by walk_at "up") (by assumption)
theorem c_law_turn (L : Lw K mg) : Cal P w K mg base 2 "_law_turn" (sp4 fs_turn) [] := by
  obtain ⟨fd, F⟩ := L.d_law_turn
  exact ⟨⟨_, fd, ["pool", "k", "many", "far"], [], ok_law_turn L F, L.g_law_turn, F.kp, F.bindsN (fun _ _ _ _ _ _ us hl => match us, hl with | [_, _, _, _], _ => rfl), .nil⟩⟩
end
local macro_rules | `(tactic| walk_at "z") => `(tactic| ((with_reducible refine' u_turn ?zl1 ?zl2 ?zl3 ?zl4 ?_); (case zl1 => walk_at "up"); (case zl2 => omega); (case zl3 => omega); (case zl4 => omega); intro r H' r0 r1 hP hB))

def fs_times : F2 := fun a b H Q _ => ∃ (p q : Addr) (ps qs : List Int), a = .ref p ∧ b = .ref q ∧ H p = some (.lst (ps.map V.int)) ∧ H q = some (.lst (qs.map V.int)) ∧ ps.length ≤ 1000 ∧ qs.length ≤ 1000 ∧ (∀ v, v ∈ qs → -18446744073709551616 < v ∧ v < 18446744073709551616) ∧
  ∀ r H' rs, H r = none → Same H H' → H' r = some (.lst (rs.map V.int)) → rs.length = ps.length + qs.length - 1 → (∀ m, S31.cf rs m = S31.cv (S31.cf ps) (S31.cf qs) m ps.length) → Q (.ref r) H'
theorem cf_set {xs : List Int} {i : Nat} {v : Int} (h : i < xs.length) (k : Nat) : S31.cf (xs.set i v) k = if k = i then v else S31.cf xs k := by
  unfold S31.cf
  rw [List.getD_eq_getElem?_getD, List.getElem?_set]
  by_cases e : k = i
  · subst e
    simp [h]
  · rw [if_neg (Ne.symm e), if_neg e, List.getD_eq_getElem?_getD]
section
variable {P : Program} {w : World} {K : Frag} {mg : Str → Option Value} {base : Heap}
theorem ok_law_times (L : Lw K mg) {fd : FuncData} (F : FunD K "_law_times" "_law_times" (defArgs s_law_times) (defBody s_law_times) (defScope s_law_times) (df_law_times.dvs K) (df_law_times.kws K) (He.fAd K ("_law_times", none)) fd) : FnOk P w K mg base (L2N.CX P w) 1 (He.fAd K ("_law_times", none)) fd (["p", "q"] : List Str) (sp2 fs_times) := by
  refine FunD.ok F sc_law_times len2 (fun cdv A outer s H vs Q E hr h => ?_)
  obtain ⟨a, b, rfl, h⟩ := h
  refine ⟨_, (pss_cons (ps_set (i := 2) sc_law_times.nd rfl (by first | exact Or.inl rfl | exact Or.inr rfl) (pe_op o_rep (pe_lst (pa_cons pe_int pa_nil)) (pe_callB (o_max2 rfl) (by rfl) L.f_max (by decide +kernel) (pa_cons pe_int (pa_cons (pe_op o_sub (pe_op o_cat (pe_callB (callK rLen1 (K := K) rfl o_len) (by rfl) L.f_len (by decide +kernel) (pa_cons (pv 0) pa_nil)) (pe_callB (callK rLen1 (K := K) rfl o_len) (by rfl) L.f_len (by decide +kernel) (pa_cons (pv 1) pa_nil))) pe_int) pa_nil)))))
    (pss_cons (ps_for (passes_of rfl) rfl (pi_range1 (by rfl) L.f_range (pa_cons (pe_callB (callK rLen1 (K := K) rfl o_len) (by rfl) L.f_len (by decide +kernel) (pa_cons (pv 0) pa_nil)) pa_nil)) (pg_name (i := 3) sc_law_times.nd rfl (by first | exact Or.inl rfl | exact Or.inr rfl)) (pss_one (ps_for (passes_of rfl) rfl (pi_range1 (by rfl) L.f_range (pa_cons (pe_callB (callK rLen1 (K := K) rfl o_len) (by rfl) L.f_len (by decide +kernel) (pa_cons (pv 1) pa_nil)) pa_nil)) (pg_name (i := 4) sc_law_times.nd rfl (by first | exact Or.inl rfl | exact Or.inr rfl)) (pss_one (ps_asg (pe_op o_cat (pe_ix (ix_seqK (K := K) rfl) (pv 2) (pe_op o_cat (pv 3) (pv 4)) (fun _ _ => rfl)) (pe_op o_rep (pe_ix (ix_seqK (K := K) rfl) (pv 0) (pv 3) (fun _ _ => rfl)) (pe_ix (ix_seqK (K := K) rfl) (pv 1) (pv 4) (fun _ _ => rfl)))) (pg_sub (pv 2) (pe_op o_cat (pv 3) (pv 4)) set_list))))))
    (pss_one (ps_ret (pv 2))))), ?_⟩
  obtain ⟨p, q, ps, qs, rfl, rfl, hp, hq, lp, lq, bq, k⟩ := h
  walk_at "zz"
  refine z_max2 ?_
  walk_at "zz"
  rename_i p0 H0 hp0 s0 e0
  have hmx : (max 0 ((ps.map V.int).length + (qs.map V.int).length - 1 : Int)) = ((ps.length + qs.length - 1 : Nat) : Int) := by
    rw [List.length_map, List.length_map, Int.max_def]
    split <;> omega
  rw [hmx]
  refine z_rep1 e0 (by omega) (by omega) (fun N H1 hN s1 eN => ?_)
  have hN0 : H N = none := Same.none s0 hN
  have sH1 := s0.trans s1
  rw [Int.toNat_natCast, ← List.map_replicate] at eN
  have lps : (((ps.map V.int).length : Nat) : Int) = ((ps.length : Nat) : Int) := by rw [List.length_map]
  have lqs : (((qs.map V.int).length : Nat) : Int) = ((qs.length : Nat) : Int) := by rw [List.length_map]
  walk_at "zz"
  rw [lps]
  refine z_foR (by omega) (by omega) (fun j σ' H' => ∃ (ns : List Int) (x y : Option V), σ' = [some (.ref p), some (.ref q), some (.ref N), x, y] ∧ Same H H' ∧ H' N = some (.lst (ns.map V.int)) ∧ ns.length = ps.length + qs.length - 1 ∧ ∀ m, S31.cf ns m = S31.cv (S31.cf ps) (S31.cf qs) m j) ⟨_, _, _, rfl, sH1, eN, by simp, fun m => by
    show (List.replicate _ (0 : Int)).getD m 0 = 0
    simp [List.getD_eq_getElem?_getD, List.getElem?_replicate]
    split <;> rfl⟩ ?_ ?_
  · rintro j σ' H' hj ⟨ns, x, y, rfl, sH, eN', hlen, hcf⟩
    have hj' : j < ps.length := by omega
    walk_at "zz"
    rw [lqs]
    refine z_foR (by omega) (by omega) (fun k σ' H' => ∃ (ns : List Int) (y : Option V), σ' = [some (.ref p), some (.ref q), some (.ref N), some (.int j), y] ∧ Same H H' ∧ H' N = some (.lst (ns.map V.int)) ∧ ns.length = ps.length + qs.length - 1 ∧ ∀ m, S31.cf ns m = S31.cv (S31.cf ps) (S31.cf qs) m j + (if j ≤ m ∧ m < j + k then S31.cf ps j * S31.cf qs (m - j) else 0)) ⟨_, _, rfl, sH, eN', hlen, fun m => by rw [hcf, if_neg (by omega), Int.add_zero]⟩ ?_ ?_
    · rintro k σ' H' hk ⟨ns, y, rfl, sH, eN', hlen, hcf⟩
      have hk' : k < qs.length := by omega
      have hkb := bq (qs.getD k 0) (by rw [List.getD_eq_getElem?_getD, List.getElem?_eq_getElem hk']; exact List.getElem_mem hk')
      have hjk : ((j : Int) + (k : Int)).toNat = j + k := by omega
      walk_at "zz"
      refine z_ixC eN' (by omega) (by omega) ?_
      walk_at "zz"
      refine z_ixC (sH _ _ hp) (by omega) (by omega) ?_
      walk_at "zz"
      refine z_ixC (sH _ _ hq) (by omega) (by omega) ?_
      rw [Int.toNat_natCast, Int.toNat_natCast, hjk]
      refine z_repR hkb.1 hkb.2 ?_
      walk_at "zz"
      refine z_setL (j := j + k) eN' (by omega) (by rw [List.length_map]; omega) ?_
      rw [set_int]
      refine ⟨_, _, rfl, Same.put sH hN0, upd_same, by rw [List.length_set]; exact hlen, fun m => ?_⟩
      rw [cf_set (by omega), hcf]
      by_cases e : m = j + k
      · subst e
        rw [if_pos rfl, if_pos (by omega)]
        have h1 := hcf (j + k)
        rw [if_neg (by omega), Int.add_zero] at h1
        rw [Nat.add_sub_cancel_left]
        show S31.cf ns (j + k) + S31.cf ps j * S31.cf qs k = _
        rw [h1]
      · rw [if_neg e]
        by_cases c : j ≤ m ∧ m < j + k
        · rw [if_pos c, if_pos (by omega)]
        · rw [if_neg c, if_neg (by omega)]
    · rintro σ' H' ⟨ns, y, rfl, sH, eN', hlen, hcf⟩
      refine ⟨ns, _, _, rfl, sH, eN', hlen, fun m => ?_⟩
      rw [hcf]
      show _ = S31.cv _ _ m j + (if j ≤ m then _ else 0)
      by_cases c : j ≤ m
      · by_cases c2 : m < j + (qs.length : Int).toNat
        · rw [if_pos ⟨c, c2⟩, if_pos c]
        · rw [if_neg (fun z => c2 z.2), if_pos c, S31.cf_out (xs := qs) (by omega), Int.mul_zero]
      · rw [if_neg (fun z => c z.1), if_neg c]
  · rintro σ' H' ⟨ns, x, y, rfl, sH, eN', hlen, hcf⟩
    walk_at "zz"
    exact k N H' ns hN0 sH eN' hlen (fun m => by rw [hcf, Int.toNat_natCast])
theorem c_law_times (L : Lw K mg) : Cal P w K mg base 1 "_law_times" (sp2 fs_times) [] := by
  obtain ⟨fd, F⟩ := L.d_law_times
  exact ⟨⟨_, fd, ["p", "q"], [], ok_law_times L F, L.g_law_times, F.kp, F.bindsN (fun _ _ _ _ _ _ us hl => match us, hl with | [_, _], _ => rfl), .nil⟩⟩
end
end T

set_option maxHeartbeats 4000000
namespace T
open PySem PySem.Spec PyProof.Rows L2 Z
/-! the readings' steps, as one word: walk_at "z" (one step), "zz" (as far as it goes), "up" (a fact carried here) -/
local macro_rules | `(tactic| walk_at "up") => `(tactic| first
  | assumption
  | (refine' IsR.mono (by assumption) ?zup; case zup => walk_at "up")
  | (refine' IsE.mono (by assumption) ?zup; case zup => walk_at "up")
  | (refine' Same.at (by assumption) ?zup; case zup => walk_at "up")
  | (refine' SqL.of ?zup; case zup => walk_at "up")
  | (refine' L2.Same.seq (by assumption) ?zup; case zup => walk_at "up"))
local macro_rules | `(tactic| walk_at "z") => `(tactic| first
  | ((with_reducible refine' z_var ?zvh ?_); (case zvh => exact rfl))
  | with_reducible refine z_c ?_
  | with_reducible refine z_cons ?_
  | with_reducible refine z_nil ?_
  | with_reducible refine z_op ?_
  | with_reducible refine z_nx ?_
  | with_reducible refine z_seq ?_
  | with_reducible refine z_asg ?_
  | with_reducible refine z_asgG ?_
  | with_reducible refine z_call ?_
  | with_reducible refine z_sq0 ?_
  | with_reducible refine z_sq1 ?_
  | with_reducible refine z_ifS ?_
  | with_reducible refine z_test ?_
  | with_reducible refine z_tb ?_
  | with_reducible refine z_bl ?_
  | with_reducible refine z_blI ?_
  | with_reducible refine z_ret ?_
  | with_reducible refine z_rt ?_
  | with_reducible refine z_T ?_
  | with_reducible refine z_F ?_
  | with_reducible refine z_add ?_
  | with_reducible refine z_sub ?_
  | with_reducible refine z_neg ?_
  | with_reducible refine z_un ?_
  | with_reducible refine z_eqI ?_
  | with_reducible refine z_neI ?_
  | with_reducible refine z_lt ?_
  | with_reducible refine z_le ?_
  | with_reducible refine z_gt ?_
  | with_reducible refine z_ge ?_
  | with_reducible refine z_not ?_
  | with_reducible refine z_and ?_
  | with_reducible refine z_or ?_
  | with_reducible refine z_andV ?_
  | with_reducible refine z_orV ?_
  | with_reducible refine z_notV ?_
  | with_reducible refine z_if ?_
  | with_reducible refine z_cb ?_
  | with_reducible refine z_int1 ?_
  | with_reducible refine z_intb ?_
  | with_reducible refine z_abs ?_
  | with_reducible refine z_gcd ?_
  | with_reducible refine z_isi_ii ?_
  | with_reducible refine z_isi_ib ?_
  | with_reducible refine z_next ?_
  | with_reducible refine z_drop ?_
  | with_reducible refine z_par ?_
  | with_reducible refine z_par2 ?_
  | with_reducible refine z_tupN ?_
  | with_reducible refine z_lstN ?_
  | ((with_reducible refine' z_nt ?zl1 ?_); (case zl1 => exact Nat.le_of_ble_eq_true rfl); intro p H' hp hs he)
  | ((with_reducible refine' z_gtup ?zl1 ?zl2 ?_); (case zl1 => walk_at "up"); (case zl2 => exact rfl))
  | with_reducible refine z_bk ?_
  | with_reducible refine z_ct ?_
  | with_reducible refine z_break ?_
  | with_reducible refine z_cont ?_
  | with_reducible refine z_retN ?_
  | with_reducible refine z_nn ?_
  | with_reducible refine z_mk ?_
  | with_reducible refine z_gn ?_
  | with_reducible refine z_gcons ?_
  | with_reducible refine z_gnil ?_
  | with_reducible refine z_mt ?_
  | with_reducible refine z_mko ?_
  | with_reducible refine z_for2 ?_
  | with_reducible refine z_ownI ?_
  | ((with_reducible refine' z_lenL ?zl1 ?_); (case zl1 => walk_at "up"))
  | ((with_reducible refine' z_ixT ?zl1 ?zl2 ?_); (case zl1 => walk_at "up"); (case zl2 => exact rfl))
  | ((with_reducible refine' z_mulL ?zl1 ?zl2 ?_); (case zl1 => omega); (case zl2 => omega))
  | ((with_reducible refine' z_mulR ?zl1 ?zl2 ?_); (case zl1 => omega); (case zl2 => omega))
  | ((with_reducible refine' z_divS ?zl1 ?zl2 ?_); (case zl1 => omega); (case zl2 => omega))
  | ((with_reducible refine' z_mulW ?zl1 ?zl2 ?zl3 ?zl4 ?_); (case zl1 => omega); (case zl2 => omega); (case zl3 => omega); (case zl4 => omega))
  | ((with_reducible refine' z_divW ?zl1 ?zl2 ?_); (case zl1 => omega); (case zl2 => omega)))
local macro_rules | `(tactic| walk_at "zz") => `(tactic| repeat (walk_at "z"))
local macro_rules | `(tactic| walk_at "z") => `(tactic| with_reducible refine z_lstN ?_)
local macro_rules | `(tactic| walk_at "z") => `(tactic| with_reducible refine z_p6 ?_)
local macro_rules | `(tactic| walk_at "z") => `(tactic| with_reducible refine z_p12 ?_)
local macro_rules | `(tactic| walk_at "z") => `(tactic| with_reducible refine z_p13 ?_)
local macro_rules | `(tactic| walk_at "z") => `(tactic| with_reducible refine z_calln ?_)
local macro_rules | `(tactic| walk_at "z") => `(tactic| with_reducible refine z_xfS ?_)
local macro_rules | `(tactic| walk_at "z") => `(tactic| with_reducible refine z_lcS ?_)
local macro_rules | `(tactic| walk_at "z") => `(tactic| with_reducible refine z_lcRS ?_)
local macro_rules | `(tactic| walk_at "z") => `(tactic| with_reducible refine z_lcZS ?_)
local macro_rules | `(tactic| walk_at "z") => `(tactic| with_reducible refine z_foS ?_)
local macro_rules | `(tactic| walk_at "z") => `(tactic| with_reducible refine z_for1 ?_)
local macro_rules | `(tactic| walk_at "z") => `(tactic| with_reducible refine z_tsl ?_)
local macro_rules | `(tactic| walk_at "z") => `(tactic| with_reducible refine z_np ?_)
local macro_rules | `(tactic| walk_at "z") => `(tactic| with_reducible refine z_pt ?_)
local macro_rules | `(tactic| walk_at "z") => `(tactic| with_reducible refine z_pti ?_)
local macro_rules | `(tactic| walk_at "z") => `(tactic| with_reducible refine z_catI ?_)
local macro_rules | `(tactic| walk_at "z") => `(tactic| with_reducible refine z_isNI ?_)
local macro_rules | `(tactic| walk_at "z") => `(tactic| with_reducible refine z_isNN ?_)
local macro_rules | `(tactic| walk_at "z") => `(tactic| with_reducible refine z_notNI ?_)
local macro_rules | `(tactic| walk_at "z") => `(tactic| with_reducible refine z_notNN ?_)
local macro_rules | `(tactic| walk_at "z") => `(tactic| with_reducible refine z_gsub ?_)
local macro_rules | `(tactic| walk_at "z") => `(tactic| with_reducible refine z_isNb ?_)
local macro_rules | `(tactic| walk_at "z") => `(tactic| with_reducible refine z_notNb ?_)
local macro_rules | `(tactic| walk_at "z") => `(tactic| ((with_reducible refine' z_nlR ?zl1 ?_); (case zl1 => exact Nat.le_of_ble_eq_true rfl); intro p H' hp hs he))
local macro_rules | `(tactic| walk_at "z") => `(tactic| ((with_reducible refine' z_repR ?zl1 ?zl2 ?_); (case zl1 => omega); (case zl2 => omega)))
local macro_rules | `(tactic| walk_at "z") => `(tactic| ((with_reducible refine' z_repL ?zl1 ?zl2 ?_); (case zl1 => omega); (case zl2 => omega)))
local macro_rules | `(tactic| walk_at "z") => `(tactic| ((with_reducible refine' z_lenLst ?zl1 ?_); (case zl1 => walk_at "up")))
local macro_rules | `(tactic| walk_at "z") => `(tactic| ((with_reducible refine' z_cat ?zl1 ?zl2 ?zl3 ?_); (case zl1 => walk_at "up"); (case zl2 => walk_at "up"); (case zl3 => (simp only [List.length_map, List.length_cons, List.length_nil, List.length_append, List.length_replicate]; omega)); intro p H' hp hs he))
local macro_rules | `(tactic| walk_at "z") => `(tactic| with_reducible refine z_sfl ?_)
theorem sameD {H H1 H2 : Hp} (h : Same H1 H2) (e : Same H H1) : Same H H2 := e.trans h
local macro_rules | `(tactic| walk_at "sm") => `(tactic| first
  | assumption
  | exact fun _ _ h => h
  | (refine' sameD (by assumption) ?zsm; case zsm => walk_at "sm"))
local macro_rules | `(tactic| walk_at "up") => `(tactic| first
  | assumption
  | (refine' IsPool.mono (by assumption) ?zup; case zup => walk_at "up")
  | (refine' IsP.mono (by assumption) ?zup; case zup => walk_at "up")
  | (refine' Same.at (by assumption) ?zup; case zup => walk_at "up")
  | (refine' But.at (by assumption) ?zne ?zup; (case zne => (first | assumption | exact Ne.symm (by assumption))); (case zup => walk_at "up"))
  | (refine' IsPool.of ?zup; case zup => walk_at "up"))
local macro_rules | `(tactic| walk_at "bt") => `(tactic| first
  | assumption
  | exact fun _ _ _ h => h
  | (refine' But.trans ?zsm (by assumption); case zsm => walk_at "bt")
  | (refine' But.trans ?zsm (But.of (by assumption)); case zsm => walk_at "bt"))
local macro_rules | `(tactic| walk_at "z") => `(tactic| ((with_reducible refine' u_take ?zl1 ?zl2 ?zl3 ?zl4 ?_); (case zl1 => walk_at "up"); (case zl2 => omega); (case zl3 => omega); (case zl4 => omega); intro r H' r0 r1 hP hB))
local macro_rules | `(tactic| walk_at "z") => `(tactic| ((with_reducible refine' u_turn ?zl1 ?zl2 ?zl3 ?zl4 ?_); (case zl1 => walk_at "up"); (case zl2 => omega); (case zl3 => omega); (case zl4 => omega); intro r H' r0 r1 hP hB))

theorem u_times {p q : Addr} {ps qs : List Int} {H : Hp} {Q : VK} {E : XK} (hp : H p = some (.lst (ps.map V.int))) (hq : H q = some (.lst (qs.map V.int))) (lp : ps.length ≤ 1000) (lq : qs.length ≤ 1000) (bq : ∀ v, v ∈ qs → -18446744073709551616 < v ∧ v < 18446744073709551616)
    (k : ∀ r H' rs, H r = none → Same H H' → H' r = some (.lst (rs.map V.int)) → S31.Pr ps qs rs → Q (.ref r) H') : sp2 fs_times [.ref p, .ref q] H Q E := ⟨_, _, rfl, p, q, ps, qs, rfl, rfl, hp, hq, lp, lq, bq, fun r H' rs h1 h2 h3 h4 h5 => k r H' rs h1 h2 h3 ⟨h4, h5⟩⟩
def fs_fac : F1 := fun a H Q _ => ∃ p : Addr, a = .ref p ∧ IsPool H p ∧ ∀ q H' ns, q ≠ p → IsPool H' p → But p H H' → H' q = some (.lst (ns.map V.int)) → S31.Fac ns → Q (.ref q) H'
section
variable {P : Program} {w : World} {K : Frag} {mg : Str → Option Value} {base : Heap}
theorem ok_law_factors (L : Lw K mg) {fd : FuncData} (F : FunD K "_law_factors" "_law_factors" (defArgs s_law_factors) (defBody s_law_factors) (defScope s_law_factors) (df_law_factors.dvs K) (df_law_factors.kws K) (He.fAd K ("_law_factors", none)) fd) : FnOk P w K mg base (L2N.CX P w) 3 (He.fAd K ("_law_factors", none)) fd (["pool"] : List Str) (sp1 fs_fac) := by
  refine FunD.ok F sc_law_factors len1 (fun cdv A outer s H vs Q E hr h => ?_)
  obtain ⟨a, rfl, h⟩ := h
  refine ⟨_, (pss_cons (ps_set (i := 1) sc_law_factors.nd rfl (by first | exact Or.inl rfl | exact Or.inr rfl) (pe_lst (pa_cons pe_int pa_nil)))
    (pss_cons (ps_for (passes_of rfl) rfl (pi_range1 (by rfl) L.f_range (pa_cons (pe_op o_cat pe_int (pe_c (c_law_take (K := K) L) hr (by decide) (L2N.takes_of rfl rfl rfl rfl) (pa_cons (pv 0) (pa_cons pe_int (pa_cons pe_int pa_nil))))) pa_nil)) (pg_name (i := 2) sc_law_factors.nd rfl (by first | exact Or.inl rfl | exact Or.inr rfl)) (pss_cons (ps_set (i := 3) sc_law_factors.nd rfl (by first | exact Or.inl rfl | exact Or.inr rfl) (pe_op o_cat pe_int (pe_c (c_law_turn (K := K) L) hr (by decide) (L2N.takes_of rfl rfl rfl rfl) (pa_cons (pv 0) (pa_cons (pe_op o_cat pe_int (pv 2)) (pa_cons pe_int (pa_cons (pe_op o_cat pe_int (pv 2)) pa_nil)))))))
    (pss_cons (ps_set (i := 4) sc_law_factors.nd rfl (by first | exact Or.inl rfl | exact Or.inr rfl) (pe_op o_cat pe_int (pe_c (c_law_turn (K := K) L) hr (by decide) (L2N.takes_of rfl rfl rfl rfl) (pa_cons (pv 0) (pa_cons (pe_op o_cat pe_int (pv 2)) (pa_cons pe_int (pa_cons (pe_op o_rep pe_int (pv 2)) pa_nil)))))))
    (pss_one (ps_set (i := 1) sc_law_factors.nd rfl (by first | exact Or.inl rfl | exact Or.inr rfl) (pe_c (c_law_times (K := K) L) hr (by decide) (L2N.takes_of rfl rfl rfl rfl) (pa_cons (pv 1) (pa_cons (pe_lst (pa_cons (pe_op o_cat (pe_op o_rep (pe_op o_rep pe_int (pv 3)) (pv 3)) (pv 4)) (pa_cons (pe_op o_rep (pe_un o_neg pe_int) (pv 3)) (pa_cons pe_int pa_nil)))) pa_nil))))))))
    (pss_cons (ps_if (pt_cmpR op_eq (pe_callB (callK rLen1 (K := K) rfl o_len) (by rfl) L.f_len (by decide +kernel) (pa_cons (pv 1) pa_nil)) pe_int (nomark _)) (pss_one (ps_for (passes_of rfl) rfl (pi_range1 (by rfl) L.f_range (pa_cons (pe_c (c_law_turn (K := K) L) hr (by decide) (L2N.takes_of rfl rfl rfl rfl) (pa_cons (pv 0) (pa_cons pe_int (pa_cons pe_int (pa_cons pe_int pa_nil))))) pa_nil)) (pg_name (i := 2) sc_law_factors.nd rfl (by first | exact Or.inl rfl | exact Or.inr rfl)) (pss_one (ps_set (i := 1) sc_law_factors.nd rfl (by first | exact Or.inl rfl | exact Or.inr rfl) (pe_c (c_law_times (K := K) L) hr (by decide) (L2N.takes_of rfl rfl rfl rfl) (pa_cons (pv 1) (pa_cons (pe_lst (pa_cons (pe_c (c_law_turn (K := K) L) hr (by decide) (L2N.takes_of rfl rfl rfl rfl) (pa_cons (pv 0) (pa_cons (pe_op o_cat pe_int (pv 2)) (pa_cons pe_int (pa_cons (pv 2) pa_nil))))) (pa_cons pe_int pa_nil))) pa_nil))))))) pss_nil)
    (pss_one (ps_ret (pv 1)))))), ?_⟩
  obtain ⟨p, rfl, hP, k⟩ := h
  walk_at "zz"
  rename_i q0 H0 hq0 s0 e0 t Ht t0 t1 hPt hBt
  have ne0 := hP.ne hq0
  refine z_foR (by omega) (by omega) (fun i σ' H' => ∃ (q : Addr) (ns : List Int) (x1 x2 x3 : Option V), σ' = [some (.ref p), some (.ref q), x1, x2, x3] ∧ IsPool H' p ∧ But p H H' ∧ q ≠ p ∧ H' q = some (.lst (ns.map V.int)) ∧ S31.FacA i ns) ⟨q0, [1], _, _, _, rfl, hPt, by walk_at "bt", ne0, by walk_at "up", S31.facA_0⟩ ?_ ?_
  · rintro i σ' H' hi ⟨q, ns, x1, x2, x3, rfl, hP', hB', ne, hq, fa⟩
    have hi1 : i < 2 := by omega
    have hlen := fa.len
    walk_at "zz"
    rename_i r1 H1 r10 r11 hP1 hB1 r2 H2 r20 r21 hP2 hB2 l Hl hl sl el
    refine u_times (qs := [2 * (1 + r1) * (1 + r1) + (1 + r2), -8 * (1 + r1), 8]) (by walk_at "up") el (by omega) (by simp) ?_ (fun r Hr rs hr sr er pr => ?_)
    · intro v hv
      have : r1 = 0 ∨ r1 = 1 ∨ r1 = 2 ∨ r1 = 3 := by omega
      simp only [List.mem_cons, List.not_mem_nil, or_false] at hv
      rcases this with rfl | rfl | rfl | rfl <;> omega
    · have hPl : IsPool Hl p := by walk_at "up"
      walk_at "zz"
      exact ⟨r, rs, _, _, _, rfl, by walk_at "up", by walk_at "bt", hPl.ne hr, er, S31.facA_step fa (by omega) pr⟩
  · rintro σ' H' ⟨q, ns, x1, x2, x3, rfl, hP', hB', ne, hq, fa⟩
    have hlen := fa.len
    have hlm : (ns.map V.int).length = ns.length := List.length_map ..
    walk_at "zz"
    rw [hlm]
    refine z_d2 (fun c => ?_) (fun c => ?_)
    · have i1 : (1 + t).toNat = 1 := by omega
      rw [i1] at fa
      walk_at "zz"
      rename_i u Hu u0 u1 hPu hBu
      refine z_foR (by omega) (by omega) (fun i σ' H' => ∃ (q : Addr) (ns : List Int) (x1 x2 x3 : Option V), σ' = [some (.ref p), some (.ref q), x1, x2, x3] ∧ IsPool H' p ∧ But p H H' ∧ q ≠ p ∧ H' q = some (.lst (ns.map V.int)) ∧ S31.FacB i ns) ⟨q, ns, _, _, _, rfl, hPu, by walk_at "bt", ne, by walk_at "up", S31.facB_0 fa⟩ ?_ ?_
      · rintro i σ' H' hi ⟨q, ns, x1, x2, x3, rfl, hP', hB', ne, hq, fb⟩
        have hi1 : i < 2 := by omega
        have hlen := fb.len
        walk_at "zz"
        rename_i r1 H1 r10 r11 hP1 hB1 l Hl hl sl el
        refine u_times (qs := [r1, 1]) (by walk_at "up") el (by omega) (by simp) ?_ (fun r Hr rs hr sr er pr => ?_)
        · intro v hv
          simp only [List.mem_cons, List.not_mem_nil, or_false] at hv
          omega
        · have hPl : IsPool Hl p := by walk_at "up"
          walk_at "zz"
          exact ⟨r, rs, _, _, _, rfl, by walk_at "up", by walk_at "bt", hPl.ne hr, er, S31.facB_step fb r10 pr⟩
      · rintro σ' H' ⟨q, ns, x1, x2, x3, rfl, hP', hB', ne, hq, fb⟩
        walk_at "zz"
        exact k q H' ns ne hP' hB' hq (fb.fac (by omega))
    · walk_at "zz"
      exact k q H' ns ne hP' hB' hq (fa.fac (by omega) (by omega))
theorem c_law_factors (L : Lw K mg) : Cal P w K mg base 3 "_law_factors" (sp1 fs_fac) [] := by
  obtain ⟨fd, F⟩ := L.d_law_factors
  exact ⟨⟨_, fd, ["pool"], [], ok_law_factors L F, L.g_law_factors, F.kp, F.bindsN (fun _ _ _ _ _ _ us hl => match us, hl with | [_], _ => rfl), .nil⟩⟩
end
theorem modes {r : Int} (h0 : 0 ≤ r) (h1 : r < 8) : ∃ v : Int, atI [V.int 0, .int 0, .int 1, .int 2, .int 0, .int 3, .int 4, .int 0] r = some (.int v) ∧ (v = 0 ∨ v = 1 ∨ v = 2 ∨ v = 3 ∨ v = 4) := by
  have : r = 0 ∨ r = 1 ∨ r = 2 ∨ r = 3 ∨ r = 4 ∨ r = 5 ∨ r = 6 ∨ r = 7 := by omega
  rcases this with rfl | rfl | rfl | rfl | rfl | rfl | rfl | rfl <;> exact ⟨_, rfl, by decide⟩
def fs_world : F1 := fun a H Q _ => ∃ p : Addr, a = .ref p ∧ IsPool H p ∧ ∀ t q H' ns md, q ≠ p → IsPool H' p → But p H H' → H' t = some (.tup [.int md, .ref q]) → H' q = some (.lst (ns.map V.int)) → ns.length ≤ 100 → (md = 1 ∨ md = 2 → S31.Bad (S31.cf ns)) → Q (.ref t) H'
section
variable {P : Program} {w : World} {K : Frag} {mg : Str → Option Value} {base : Heap}
theorem ok_law_world (L : Lw K mg) {fd : FuncData} (F : FunD K "_law_world" "_law_world" (defArgs s_law_world) (defBody s_law_world) (defScope s_law_world) (df_law_world.dvs K) (df_law_world.kws K) (He.fAd K ("_law_world", none)) fd) : FnOk P w K mg base (L2N.CX P w) 4 (He.fAd K ("_law_world", none)) fd (["pool"] : List Str) (sp1 fs_world) := by
  refine FunD.ok F sc_law_world len1 (fun cdv A outer s H vs Q E hr h => ?_)
  obtain ⟨a, rfl, h⟩ := h
  refine ⟨_, (pss_cons (ps_set (i := 1) sc_law_world.nd rfl (by first | exact Or.inl rfl | exact Or.inr rfl) (pe_ix (ix_seqK (K := K) rfl) (pe_lst (pa_cons pe_int (pa_cons pe_int (pa_cons pe_int (pa_cons pe_int (pa_cons pe_int (pa_cons pe_int (pa_cons pe_int (pa_cons pe_int pa_nil))))))))) (pe_c (c_law_take (K := K) L) hr (by decide) (L2N.takes_of rfl rfl rfl rfl) (pa_cons (pv 0) (pa_cons pe_int (pa_cons pe_int pa_nil)))) (fun _ _ => rfl)))
    (pss_cons (ps_set (i := 2) sc_law_world.nd rfl (by first | exact Or.inl rfl | exact Or.inr rfl) (pe_c (c_law_factors (K := K) L) hr (by decide) (L2N.takes_of rfl rfl rfl rfl) (pa_cons (pv 0) pa_nil)))
    (pss_cons (ps_if (pt_cmpR op_eq (pv 1) pe_int (nomark _)) (pss_one (ps_set (i := 2) sc_law_world.nd rfl (by first | exact Or.inl rfl | exact Or.inr rfl) (pe_c (c_law_times (K := K) L) hr (by decide) (L2N.takes_of rfl rfl rfl rfl) (pa_cons (pe_slice (slK rSlL (K := K) rfl sl_list) (pv 2) po_none (po_some pe_int)) (pa_cons (pe_lst (pa_cons (pe_op o_sub (pe_un o_neg pe_int) (pe_c (c_law_take (K := K) L) hr (by decide) (L2N.takes_of rfl rfl rfl rfl) (pa_cons (pv 0) (pa_cons pe_int (pa_cons pe_int pa_nil))))) (pa_cons pe_int pa_nil))) pa_nil))))) pss_nil)
    (pss_cons (ps_if (pt_cmpR op_eq (pv 1) pe_int (nomark _)) (pss_one (ps_setLc (i := 2) (own := [("one", 3)]) (g := (gName 3)) (tt := tYes) rfl sc_law_world.nd rfl rfl (sw_true rfl rfl rfl (by decide +kernel)) (pi_listK (K := K) rfl (pv 2)) (blkOk_by (N := ["pool", "mode", "nums", "one", "odd", "top"]) (sc := defScope s_law_world) (by decide +kernel)) (fun _ _ _ _ _ => pg_name (i := 3) sc_law_world.nd rfl (Or.inl rfl)) (fun _ _ _ _ _ => pts_nil) (fun _ _ _ _ _ => (pe_un o_neg (pv 3))))) pss_nil)
    (pss_cons (ps_if (pt_cmpR op_eq (pv 1) pe_int (nomark _)) (pss_one (ps_set (i := 2) sc_law_world.nd rfl (by first | exact Or.inl rfl | exact Or.inr rfl) (pe_lst pa_nil))) pss_nil)
    (pss_cons (ps_if (pt_cmpR op_eq (pv 1) pe_int (nomark _)) (pss_one (ps_set (i := 2) sc_law_world.nd rfl (by first | exact Or.inl rfl | exact Or.inr rfl) (pe_lst (pa_cons (pe_op o_sub (pe_c (c_law_turn (K := K) L) hr (by decide) (L2N.takes_of rfl rfl rfl rfl) (pa_cons (pv 0) (pa_cons pe_int (pa_cons pe_int (pa_cons pe_int pa_nil))))) pe_int) pa_nil)))) pss_nil)
    (pss_cons (ps_set (i := 4) sc_law_world.nd rfl (by first | exact Or.inl rfl | exact Or.inr rfl) (pe_cmpR op_eq (pe_c (c_law_take (K := K) L) hr (by decide) (L2N.takes_of rfl rfl rfl rfl) (pa_cons (pv 0) (pa_cons pe_int (pa_cons pe_int pa_nil)))) pe_int (nomark _)))
    (pss_cons (ps_if (PW.pt (pw_and (pt_val (pv 4)) (pw_and1 (pt_cmpR o_lt (pv 1) pe_int (nomark _))))) (pss_one (ps_set (i := 2) sc_law_world.nd rfl (by first | exact Or.inl rfl | exact Or.inr rfl) (pe_op o_cat (pe_lst (pa_cons pe_int pa_nil)) (pv 2)))) pss_nil)
    (pss_cons (ps_set (i := 5) sc_law_world.nd rfl (by first | exact Or.inl rfl | exact Or.inr rfl) (pe_op o_cat pe_int (pe_c (c_law_take (K := K) L) hr (by decide) (L2N.takes_of rfl rfl rfl rfl) (pa_cons (pv 0) (pa_cons pe_int (pa_cons pe_int pa_nil))))))
    (pss_one (ps_ret (pe_tup (pa_cons (pv 1) (pa_cons (pe_lc (own := [("one", 3)]) (g := (gName 3)) (tt := tYes) rfl sc_law_world.nd (pi_listK (K := K) rfl (pv 2)) (blkOk_by (N := ["pool", "mode", "nums", "one", "odd", "top"]) (sc := defScope s_law_world) (by decide +kernel)) (fun _ _ _ _ _ => pg_name (i := 3) sc_law_world.nd rfl (Or.inl rfl)) (fun _ _ _ _ _ => pts_nil) (fun _ _ _ _ _ => (pe_op o_rep (pv 5) (pv 3)))) pa_nil)))))))))))))), ?_⟩
  obtain ⟨p, rfl, hP, k⟩ := h
  walk_at "zz"
  rename_i pm Hm hpm sm em r Ht r0 r1 hPt hBt
  have nem := hP.ne hpm
  obtain ⟨md, ev, hmd⟩ := modes r0 r1
  refine z_ixL (SqL.of (by walk_at "up")) ev ?_
  walk_at "zz"
  refine ⟨_, rfl, p, rfl, by walk_at "up", fun q Hq ns ne hPq hBq eq fa => ?_⟩
  have l1 := fa.l1
  have l2 := fa.l2
  walk_at "zz"
  rcases hmd with rfl | rfl | rfl | rfl | rfl
  · refine z_dF (by decide) ?_
    walk_at "zz"
    refine z_dF (by decide) ?_
    walk_at "zz"
    refine z_dF (by decide) ?_
    walk_at "zz"
    refine z_dF (by decide) ?_
    walk_at "zz"
    rename_i ro Hro ro0 ro1 hPro hBro
    refine z_d2 (fun co => ?_) (fun co => ?_)
    · walk_at "zz"
      refine z_dT (by decide) ?_
      walk_at "zz"
      rename_i pz Hz hpz sz ez pc Hc hpc sc ec tq Htq tq0 tq1 hPtq hBtq
      have hPz : IsPool Hz p := by walk_at "up"
      have nec := hPz.ne hpc
      have ec2 : Hc pc = some (.lst ((0 :: ns).map V.int)) := ec
      refine z_lcI (ns := (0 :: ns)) (fun n => V.int ((1 + tq) * n)) (by walk_at "up") (by first | omega | (simp only [List.length_cons, List.length_map, List.length_nil]; omega)) (fun n H4 N hn s4 c4 => ⟨rfl, ?_⟩) (fun D HD hD sD hl => ?_)
      · walk_at "zz"
        exact c4 _ (fun _ _ h => h)
      · have hPD : IsPool Htq p := by walk_at "up"
        have neD := hPD.ne hD
        have em : ((0 :: ns)).map (fun n => V.int ((1 + tq) * n)) = (((0 :: ns)).map fun n => (1 + tq) * n).map V.int := by rw [List.map_map]; rfl
        rw [em] at hl
        walk_at "zz"
        exact k _ D _ _ _ neD (by walk_at "up") (by walk_at "bt") (by assumption) (by walk_at "up") (by first | omega | (simp only [List.length_cons, List.length_map, List.length_nil]; omega)) (fun z => S31.bad_scale (c := 1 + tq) (by omega) (fun k => S31.cf_top k) (S31.bad_congr S31.cf_sh (S31.bad_sh (absurd z (by omega)))))
    · walk_at "zz"
      rename_i tq Htq tq0 tq1 hPtq hBtq
      refine z_lcI (ns := ns) (fun n => V.int ((1 + tq) * n)) (by walk_at "up") (by first | omega | (simp only [List.length_cons, List.length_map, List.length_nil]; omega)) (fun n H4 N hn s4 c4 => ⟨rfl, ?_⟩) (fun D HD hD sD hl => ?_)
      · walk_at "zz"
        exact c4 _ (fun _ _ h => h)
      · have hPD : IsPool Htq p := by walk_at "up"
        have neD := hPD.ne hD
        have em : (ns).map (fun n => V.int ((1 + tq) * n)) = ((ns).map fun n => (1 + tq) * n).map V.int := by rw [List.map_map]; rfl
        rw [em] at hl
        walk_at "zz"
        exact k _ D _ _ _ neD (by walk_at "up") (by walk_at "bt") (by assumption) (by walk_at "up") (by first | omega | (simp only [List.length_cons, List.length_map, List.length_nil]; omega)) (fun z => S31.bad_scale (c := 1 + tq) (by omega) (fun k => S31.cf_top k) (absurd z (by omega)))
  · refine z_dT rfl ?_
    walk_at "zz"
    refine z_sll eq (fun s3 H3 hs3 ss3 es3 => ?_)
    have cut3 : cutV (ns.map V.int) none (some (3 : Int)) = (ns.take 3).map V.int := by
      rw [List.map_take]
      exact cut_hi (n := 3)
    rw [cut3] at es3
    have ne3 := hPq.ne hs3
    walk_at "zz"
    rename_i rt Hrt rt0 rt1 hPrt hBrt l Hl hl sl el
    refine u_times (ps := ns.take 3) (qs := [-1 - rt, 2]) (by walk_at "up") el (by rw [List.length_take]; omega) (by simp) ?_ (fun rr Hr rs hr sr er pr => ?_)
    · intro v hv
      simp only [List.mem_cons, List.not_mem_nil, or_false] at hv
      omega
    have hPl : IsPool Hl p := by walk_at "up"
    have ner := hPl.ne hr
    have lr : rs.length ≤ 4 := by
      have := pr.1
      rw [List.length_take] at this
      simp only [List.length_cons, List.length_nil] at this
      omega
    have bad := S31.bad_root fa rt0 pr
    walk_at "zz"
    refine z_dF (by decide) ?_
    walk_at "zz"
    refine z_dF (by decide) ?_
    walk_at "zz"
    refine z_dF (by decide) ?_
    walk_at "zz"
    rename_i ro Hro ro0 ro1 hPro hBro
    refine z_d2 (fun co => ?_) (fun co => ?_)
    · walk_at "zz"
      refine z_dT (by decide) ?_
      walk_at "zz"
      rename_i pz Hz hpz sz ez pc Hc hpc sc ec tq Htq tq0 tq1 hPtq hBtq
      have hPz : IsPool Hz p := by walk_at "up"
      have nec := hPz.ne hpc
      have ec2 : Hc pc = some (.lst ((0 :: rs).map V.int)) := ec
      refine z_lcI (ns := (0 :: rs)) (fun n => V.int ((1 + tq) * n)) (by walk_at "up") (by first | omega | (simp only [List.length_cons, List.length_map, List.length_nil]; omega)) (fun n H4 N hn s4 c4 => ⟨rfl, ?_⟩) (fun D HD hD sD hl => ?_)
      · walk_at "zz"
        exact c4 _ (fun _ _ h => h)
      · have hPD : IsPool Htq p := by walk_at "up"
        have neD := hPD.ne hD
        have em : ((0 :: rs)).map (fun n => V.int ((1 + tq) * n)) = (((0 :: rs)).map fun n => (1 + tq) * n).map V.int := by rw [List.map_map]; rfl
        rw [em] at hl
        walk_at "zz"
        exact k _ D _ _ _ neD (by walk_at "up") (by walk_at "bt") (by assumption) (by walk_at "up") (by first | omega | (simp only [List.length_cons, List.length_map, List.length_nil]; omega)) (fun z => S31.bad_scale (c := 1 + tq) (by omega) (fun k => S31.cf_top k) (S31.bad_congr S31.cf_sh (S31.bad_sh (bad))))
    · walk_at "zz"
      rename_i tq Htq tq0 tq1 hPtq hBtq
      refine z_lcI (ns := rs) (fun n => V.int ((1 + tq) * n)) (by walk_at "up") (by first | omega | (simp only [List.length_cons, List.length_map, List.length_nil]; omega)) (fun n H4 N hn s4 c4 => ⟨rfl, ?_⟩) (fun D HD hD sD hl => ?_)
      · walk_at "zz"
        exact c4 _ (fun _ _ h => h)
      · have hPD : IsPool Htq p := by walk_at "up"
        have neD := hPD.ne hD
        have em : (rs).map (fun n => V.int ((1 + tq) * n)) = ((rs).map fun n => (1 + tq) * n).map V.int := by rw [List.map_map]; rfl
        rw [em] at hl
        walk_at "zz"
        exact k _ D _ _ _ neD (by walk_at "up") (by walk_at "bt") (by assumption) (by walk_at "up") (by first | omega | (simp only [List.length_cons, List.length_map, List.length_nil]; omega)) (fun z => S31.bad_scale (c := 1 + tq) (by omega) (fun k => S31.cf_top k) (bad))
  · refine z_dF (by decide) ?_
    walk_at "zz"
    refine z_dT rfl ?_
    walk_at "zz"
    refine z_lcI (ns := ns) (fun n => V.int (-n)) eq (by omega) (fun n H4 N hn s4 c4 => ⟨rfl, ?_⟩) (fun D2 HD2 hD2 sD2 hl2 => ?_)
    · walk_at "zz"
      exact c4 _ (fun _ _ h => h)
    have em2 : ns.map (fun n => V.int (-n)) = (ns.map fun n => -n).map V.int := by rw [List.map_map]; rfl
    rw [em2] at hl2
    have neD2 := hPq.ne hD2
    have lm : (ns.map fun n => -n).length = ns.length := List.length_map ..
    have bad := S31.bad_turned fa
    generalize (ns.map fun n => -n) = ms at *
    walk_at "zz"
    refine z_dF (by decide) ?_
    walk_at "zz"
    refine z_dF (by decide) ?_
    walk_at "zz"
    rename_i ro Hro ro0 ro1 hPro hBro
    refine z_d2 (fun co => ?_) (fun co => ?_)
    · walk_at "zz"
      refine z_dT (by decide) ?_
      walk_at "zz"
      rename_i pz Hz hpz sz ez pc Hc hpc sc ec tq Htq tq0 tq1 hPtq hBtq
      have hPz : IsPool Hz p := by walk_at "up"
      have nec := hPz.ne hpc
      have ec2 : Hc pc = some (.lst ((0 :: ms).map V.int)) := ec
      refine z_lcI (ns := (0 :: ms)) (fun n => V.int ((1 + tq) * n)) (by walk_at "up") (by first | omega | (simp only [List.length_cons, List.length_map, List.length_nil]; omega)) (fun n H4 N hn s4 c4 => ⟨rfl, ?_⟩) (fun D HD hD sD hl => ?_)
      · walk_at "zz"
        exact c4 _ (fun _ _ h => h)
      · have hPD : IsPool Htq p := by walk_at "up"
        have neD := hPD.ne hD
        have em : ((0 :: ms)).map (fun n => V.int ((1 + tq) * n)) = (((0 :: ms)).map fun n => (1 + tq) * n).map V.int := by rw [List.map_map]; rfl
        rw [em] at hl
        walk_at "zz"
        exact k _ D _ _ _ neD (by walk_at "up") (by walk_at "bt") (by assumption) (by walk_at "up") (by first | omega | (simp only [List.length_cons, List.length_map, List.length_nil]; omega)) (fun z => S31.bad_scale (c := 1 + tq) (by omega) (fun k => S31.cf_top k) (S31.bad_congr S31.cf_sh (S31.bad_sh (bad))))
    · walk_at "zz"
      rename_i tq Htq tq0 tq1 hPtq hBtq
      refine z_lcI (ns := ms) (fun n => V.int ((1 + tq) * n)) (by walk_at "up") (by first | omega | (simp only [List.length_cons, List.length_map, List.length_nil]; omega)) (fun n H4 N hn s4 c4 => ⟨rfl, ?_⟩) (fun D HD hD sD hl => ?_)
      · walk_at "zz"
        exact c4 _ (fun _ _ h => h)
      · have hPD : IsPool Htq p := by walk_at "up"
        have neD := hPD.ne hD
        have em : (ms).map (fun n => V.int ((1 + tq) * n)) = ((ms).map fun n => (1 + tq) * n).map V.int := by rw [List.map_map]; rfl
        rw [em] at hl
        walk_at "zz"
        exact k _ D _ _ _ neD (by walk_at "up") (by walk_at "bt") (by assumption) (by walk_at "up") (by first | omega | (simp only [List.length_cons, List.length_map, List.length_nil]; omega)) (fun z => S31.bad_scale (c := 1 + tq) (by omega) (fun k => S31.cf_top k) (bad))
  · refine z_dF (by decide) ?_
    walk_at "zz"
    refine z_dF (by decide) ?_
    walk_at "zz"
    refine z_dT rfl ?_
    walk_at "zz"
    rename_i pe He hpe se ee
    have neE := hPq.ne hpe
    have ee2 : He pe = some (.lst (([] : List Int).map V.int)) := ee
    refine z_dF (by decide) ?_
    walk_at "zz"
    rename_i ro Hro ro0 ro1 hPro hBro
    refine z_d2 (fun co => ?_) (fun co => ?_)
    · walk_at "zz"
      refine z_dF (by decide) ?_
      walk_at "zz"
      rename_i tq Htq tq0 tq1 hPtq hBtq
      refine z_lcI (ns := ([] : List Int)) (fun n => V.int ((1 + tq) * n)) (by walk_at "up") (by first | omega | (simp only [List.length_cons, List.length_map, List.length_nil]; omega)) (fun n H4 N hn s4 c4 => ⟨rfl, ?_⟩) (fun D HD hD sD hl => ?_)
      · walk_at "zz"
        exact c4 _ (fun _ _ h => h)
      · have hPD : IsPool Htq p := by walk_at "up"
        have neD := hPD.ne hD
        have em : (([] : List Int)).map (fun n => V.int ((1 + tq) * n)) = ((([] : List Int)).map fun n => (1 + tq) * n).map V.int := by rw [List.map_map]; rfl
        rw [em] at hl
        walk_at "zz"
        exact k _ D _ _ _ neD (by walk_at "up") (by walk_at "bt") (by assumption) (by walk_at "up") (by first | omega | (simp only [List.length_cons, List.length_map, List.length_nil]; omega)) (fun z => S31.bad_scale (c := 1 + tq) (by omega) (fun k => S31.cf_top k) (absurd z (by omega)))
    · walk_at "zz"
      rename_i tq Htq tq0 tq1 hPtq hBtq
      refine z_lcI (ns := ([] : List Int)) (fun n => V.int ((1 + tq) * n)) (by walk_at "up") (by first | omega | (simp only [List.length_cons, List.length_map, List.length_nil]; omega)) (fun n H4 N hn s4 c4 => ⟨rfl, ?_⟩) (fun D HD hD sD hl => ?_)
      · walk_at "zz"
        exact c4 _ (fun _ _ h => h)
      · have hPD : IsPool Htq p := by walk_at "up"
        have neD := hPD.ne hD
        have em : (([] : List Int)).map (fun n => V.int ((1 + tq) * n)) = ((([] : List Int)).map fun n => (1 + tq) * n).map V.int := by rw [List.map_map]; rfl
        rw [em] at hl
        walk_at "zz"
        exact k _ D _ _ _ neD (by walk_at "up") (by walk_at "bt") (by assumption) (by walk_at "up") (by first | omega | (simp only [List.length_cons, List.length_map, List.length_nil]; omega)) (fun z => S31.bad_scale (c := 1 + tq) (by omega) (fun k => S31.cf_top k) (absurd z (by omega)))
  · refine z_dF (by decide) ?_
    walk_at "zz"
    refine z_dF (by decide) ?_
    walk_at "zz"
    refine z_dF (by decide) ?_
    walk_at "zz"
    refine z_dT rfl ?_
    walk_at "zz"
    rename_i rt Hrt rt0 rt1 hPrt hBrt pe He hpe se ee ro Hro ro0 ro1 hPro hBro
    have neE := hPrt.ne hpe
    have ee2 : He pe = some (.lst (([rt - 2] : List Int).map V.int)) := ee
    walk_at "zz"
    refine z_d2 (fun co => ?_) (fun co => ?_)
    · walk_at "zz"
      refine z_dF (by decide) ?_
      walk_at "zz"
      rename_i tq Htq tq0 tq1 hPtq hBtq
      refine z_lcI (ns := [rt - 2]) (fun n => V.int ((1 + tq) * n)) (by walk_at "up") (by first | omega | (simp only [List.length_cons, List.length_map, List.length_nil]; omega)) (fun n H4 N hn s4 c4 => ⟨rfl, ?_⟩) (fun D HD hD sD hl => ?_)
      · walk_at "zz"
        exact c4 _ (fun _ _ h => h)
      · have hPD : IsPool Htq p := by walk_at "up"
        have neD := hPD.ne hD
        have em : ([rt - 2]).map (fun n => V.int ((1 + tq) * n)) = (([rt - 2]).map fun n => (1 + tq) * n).map V.int := by rw [List.map_map]; rfl
        rw [em] at hl
        walk_at "zz"
        exact k _ D _ _ _ neD (by walk_at "up") (by walk_at "bt") (by assumption) (by walk_at "up") (by first | omega | (simp only [List.length_cons, List.length_map, List.length_nil]; omega)) (fun z => S31.bad_scale (c := 1 + tq) (by omega) (fun k => S31.cf_top k) (absurd z (by omega)))
    · walk_at "zz"
      rename_i tq Htq tq0 tq1 hPtq hBtq
      refine z_lcI (ns := [rt - 2]) (fun n => V.int ((1 + tq) * n)) (by walk_at "up") (by first | omega | (simp only [List.length_cons, List.length_map, List.length_nil]; omega)) (fun n H4 N hn s4 c4 => ⟨rfl, ?_⟩) (fun D HD hD sD hl => ?_)
      · walk_at "zz"
        exact c4 _ (fun _ _ h => h)
      · have hPD : IsPool Htq p := by walk_at "up"
        have neD := hPD.ne hD
        have em : ([rt - 2]).map (fun n => V.int ((1 + tq) * n)) = (([rt - 2]).map fun n => (1 + tq) * n).map V.int := by rw [List.map_map]; rfl
        rw [em] at hl
        walk_at "zz"
        exact k _ D _ _ _ neD (by walk_at "up") (by walk_at "bt") (by assumption) (by walk_at "up") (by first | omega | (simp only [List.length_cons, List.length_map, List.length_nil]; omega)) (fun z => S31.bad_scale (c := 1 + tq) (by omega) (fun k => S31.cf_top k) (absurd z (by omega)))
theorem c_law_world (L : Lw K mg) : Cal P w K mg base 4 "_law_world" (sp1 fs_world) [] := by
  obtain ⟨fd, F⟩ := L.d_law_world
  exact ⟨⟨_, fd, ["pool"], [], ok_law_world L F, L.g_law_world, F.kp, F.bindsN (fun _ _ _ _ _ _ us hl => match us, hl with | [_], _ => rfl), .nil⟩⟩
end
end T

set_option maxHeartbeats 4000000
namespace T
open PySem PySem.Spec PyProof.Rows L2 Z
/-! the readings' steps, as one word: walk_at "z" (one step), "zz" (as far as it goes), "up" (a fact carried here) -/
local macro_rules | `(tactic| walk_at "up") => `(tactic| first
  | assumption
  | (refine' IsR.mono (by assumption) ?zup; case zup => walk_at "up")
  | (refine' IsE.mono (by assumption) ?zup; case zup => walk_at "up")
  | (refine' Same.at (by assumption) ?zup; case zup => walk_at "up")
  | (refine' SqL.of ?zup; case zup => walk_at "up")
  | (refine' L2.Same.seq (by assumption) ?zup; case zup => walk_at "up"))
local macro_rules | `(tactic| walk_at "z") => `(tactic| first
  | ((with_reducible refine' z_var ?zvh ?_); (case zvh => exact rfl))
  | with_reducible refine z_c ?_
  | with_reducible refine z_cons ?_
  | with_reducible refine z_nil ?_
  | with_reducible refine z_op ?_
  | with_reducible refine z_nx ?_
  | with_reducible refine z_seq ?_
  | with_reducible refine z_asg ?_
  | with_reducible refine z_asgG ?_
  | with_reducible refine z_call ?_
  | with_reducible refine z_sq0 ?_
  | with_reducible refine z_sq1 ?_
  | with_reducible refine z_ifS ?_
  | with_reducible refine z_test ?_
  | with_reducible refine z_tb ?_
  | with_reducible refine z_bl ?_
  | with_reducible refine z_blI ?_
  | with_reducible refine z_ret ?_
  | with_reducible refine z_rt ?_
  | with_reducible refine z_T ?_
  | with_reducible refine z_F ?_
  | with_reducible refine z_add ?_
  | with_reducible refine z_sub ?_
  | with_reducible refine z_neg ?_
  | with_reducible refine z_un ?_
  | with_reducible refine z_eqI ?_
  | with_reducible refine z_neI ?_
  | with_reducible refine z_lt ?_
  | with_reducible refine z_le ?_
  | with_reducible refine z_gt ?_
  | with_reducible refine z_ge ?_
  | with_reducible refine z_not ?_
  | with_reducible refine z_and ?_
  | with_reducible refine z_or ?_
  | with_reducible refine z_andV ?_
  | with_reducible refine z_orV ?_
  | with_reducible refine z_notV ?_
  | with_reducible refine z_if ?_
  | with_reducible refine z_cb ?_
  | with_reducible refine z_int1 ?_
  | with_reducible refine z_intb ?_
  | with_reducible refine z_abs ?_
  | with_reducible refine z_gcd ?_
  | with_reducible refine z_isi_ii ?_
  | with_reducible refine z_isi_ib ?_
  | with_reducible refine z_next ?_
  | with_reducible refine z_drop ?_
  | with_reducible refine z_par ?_
  | with_reducible refine z_par2 ?_
  | with_reducible refine z_tupN ?_
  | with_reducible refine z_lstN ?_
  | ((with_reducible refine' z_nt ?zl1 ?_); (case zl1 => exact Nat.le_of_ble_eq_true rfl); intro p H' hp hs he)
  | ((with_reducible refine' z_gtup ?zl1 ?zl2 ?_); (case zl1 => walk_at "up"); (case zl2 => exact rfl))
  | with_reducible refine z_bk ?_
  | with_reducible refine z_ct ?_
  | with_reducible refine z_break ?_
  | with_reducible refine z_cont ?_
  | with_reducible refine z_retN ?_
  | with_reducible refine z_nn ?_
  | with_reducible refine z_mk ?_
  | with_reducible refine z_gn ?_
  | with_reducible refine z_gcons ?_
  | with_reducible refine z_gnil ?_
  | with_reducible refine z_mt ?_
  | with_reducible refine z_mko ?_
  | with_reducible refine z_for2 ?_
  | with_reducible refine z_ownI ?_
  | ((with_reducible refine' z_lenL ?zl1 ?_); (case zl1 => walk_at "up"))
  | ((with_reducible refine' z_ixT ?zl1 ?zl2 ?_); (case zl1 => walk_at "up"); (case zl2 => exact rfl))
  | ((with_reducible refine' z_mulL ?zl1 ?zl2 ?_); (case zl1 => omega); (case zl2 => omega))
  | ((with_reducible refine' z_mulR ?zl1 ?zl2 ?_); (case zl1 => omega); (case zl2 => omega))
  | ((with_reducible refine' z_divS ?zl1 ?zl2 ?_); (case zl1 => omega); (case zl2 => omega))
  | ((with_reducible refine' z_mulW ?zl1 ?zl2 ?zl3 ?zl4 ?_); (case zl1 => omega); (case zl2 => omega); (case zl3 => omega); (case zl4 => omega))
  | ((with_reducible refine' z_divW ?zl1 ?zl2 ?_); (case zl1 => omega); (case zl2 => omega)))
local macro_rules | `(tactic| walk_at "zz") => `(tactic| repeat (walk_at "z"))
local macro_rules | `(tactic| walk_at "z") => `(tactic| with_reducible refine z_lstN ?_)
local macro_rules | `(tactic| walk_at "z") => `(tactic| with_reducible refine z_p6 ?_)
local macro_rules | `(tactic| walk_at "z") => `(tactic| with_reducible refine z_p12 ?_)
local macro_rules | `(tactic| walk_at "z") => `(tactic| with_reducible refine z_p13 ?_)
local macro_rules | `(tactic| walk_at "z") => `(tactic| with_reducible refine z_calln ?_)
local macro_rules | `(tactic| walk_at "z") => `(tactic| with_reducible refine z_xfS ?_)
local macro_rules | `(tactic| walk_at "z") => `(tactic| with_reducible refine z_lcS ?_)
local macro_rules | `(tactic| walk_at "z") => `(tactic| with_reducible refine z_lcRS ?_)
local macro_rules | `(tactic| walk_at "z") => `(tactic| with_reducible refine z_lcZS ?_)
local macro_rules | `(tactic| walk_at "z") => `(tactic| with_reducible refine z_foS ?_)
local macro_rules | `(tactic| walk_at "z") => `(tactic| with_reducible refine z_for1 ?_)
local macro_rules | `(tactic| walk_at "z") => `(tactic| with_reducible refine z_tsl ?_)
local macro_rules | `(tactic| walk_at "z") => `(tactic| with_reducible refine z_np ?_)
local macro_rules | `(tactic| walk_at "z") => `(tactic| with_reducible refine z_pt ?_)
local macro_rules | `(tactic| walk_at "z") => `(tactic| with_reducible refine z_pti ?_)
local macro_rules | `(tactic| walk_at "z") => `(tactic| with_reducible refine z_catI ?_)
local macro_rules | `(tactic| walk_at "z") => `(tactic| with_reducible refine z_isNI ?_)
local macro_rules | `(tactic| walk_at "z") => `(tactic| with_reducible refine z_isNN ?_)
local macro_rules | `(tactic| walk_at "z") => `(tactic| with_reducible refine z_notNI ?_)
local macro_rules | `(tactic| walk_at "z") => `(tactic| with_reducible refine z_notNN ?_)
local macro_rules | `(tactic| walk_at "z") => `(tactic| with_reducible refine z_gsub ?_)
local macro_rules | `(tactic| walk_at "z") => `(tactic| with_reducible refine z_isNb ?_)
local macro_rules | `(tactic| walk_at "z") => `(tactic| with_reducible refine z_notNb ?_)
local macro_rules | `(tactic| walk_at "z") => `(tactic| ((with_reducible refine' z_nlR ?zl1 ?_); (case zl1 => exact Nat.le_of_ble_eq_true rfl); intro p H' hp hs he))
local macro_rules | `(tactic| walk_at "z") => `(tactic| ((with_reducible refine' z_repR ?zl1 ?zl2 ?_); (case zl1 => omega); (case zl2 => omega)))
local macro_rules | `(tactic| walk_at "z") => `(tactic| ((with_reducible refine' z_repL ?zl1 ?zl2 ?_); (case zl1 => omega); (case zl2 => omega)))
local macro_rules | `(tactic| walk_at "z") => `(tactic| ((with_reducible refine' z_lenLst ?zl1 ?_); (case zl1 => walk_at "up")))
local macro_rules | `(tactic| walk_at "z") => `(tactic| ((with_reducible refine' z_cat ?zl1 ?zl2 ?zl3 ?_); (case zl1 => walk_at "up"); (case zl2 => walk_at "up"); (case zl3 => (simp only [List.length_map, List.length_cons, List.length_nil, List.length_append, List.length_replicate]; omega)); intro p H' hp hs he))
local macro_rules | `(tactic| walk_at "z") => `(tactic| with_reducible refine z_sfl ?_)
theorem sameE {H H1 H2 : Hp} (h : Same H1 H2) (e : Same H H1) : Same H H2 := e.trans h
local macro_rules | `(tactic| walk_at "sm") => `(tactic| first
  | assumption
  | exact fun _ _ h => h
  | (refine' sameE (by assumption) ?zsm; case zsm => walk_at "sm"))
local macro_rules | `(tactic| walk_at "up") => `(tactic| first
  | assumption
  | (refine' IsPool.mono (by assumption) ?zup; case zup => walk_at "up")
  | (refine' IsP.mono (by assumption) ?zup; case zup => walk_at "up")
  | (refine' Same.at (by assumption) ?zup; case zup => walk_at "up")
  | (refine' But.at (by assumption) ?zne ?zup; (case zne => (first | assumption | exact Ne.symm (by assumption))); (case zup => walk_at "up"))
  | (refine' IsPool.of ?zup; case zup => walk_at "up"))
local macro_rules | `(tactic| walk_at "bt") => `(tactic| first
  | assumption
  | exact fun _ _ _ h => h
  | (refine' But.trans ?zsm (by assumption); case zsm => walk_at "bt")
  | (refine' But.trans ?zsm (But.of (by assumption)); case zsm => walk_at "bt"))
local macro_rules | `(tactic| walk_at "z") => `(tactic| ((with_reducible refine' u_take ?zl1 ?zl2 ?zl3 ?zl4 ?_); (case zl1 => walk_at "up"); (case zl2 => omega); (case zl3 => omega); (case zl4 => omega); intro r H' r0 r1 hP hB))
local macro_rules | `(tactic| walk_at "z") => `(tactic| ((with_reducible refine' u_turn ?zl1 ?zl2 ?zl3 ?zl4 ?_); (case zl1 => walk_at "up"); (case zl2 => omega); (case zl3 => omega); (case zl4 => omega); intro r H' r0 r1 hP hB))
local macro_rules | `(tactic| walk_at "z") => `(tactic| with_reducible refine z_isi_ni ?_)
local macro_rules | `(tactic| walk_at "z") => `(tactic| ((with_reducible refine' z_listL ?zl1 ?_); (case zl1 => (refine' SqL.of ?zup; case zup => walk_at "up")); intro p H' hp hs he))

def fs_least : F2 := fun a b H Q _ => ∃ (p : Addr) (ns : List Int) (m : Int), a = .ref p ∧ b = .int m ∧ H p = some (.lst (ns.map V.int)) ∧ ns.length ≤ 1000 ∧ 0 ≤ m ∧ m ≤ 1000 ∧ ∀ r H', Same H H' → S31.LP (S31.cf ns) m.toNat r → Q (oV r) H'
section
variable {P : Program} {w : World} {K : Frag} {mg : Str → Option Value} {base : Heap}
theorem ok_law_least (L : Lw K mg) {fd : FuncData} (F : FunD K "_law_least" "_law_least" (defArgs s_law_least) (defBody s_law_least) (defScope s_law_least) (df_law_least.dvs K) (df_law_least.kws K) (He.fAd K ("_law_least", none)) fd) : FnOk P w K mg base (L2N.CX P w) 1 (He.fAd K ("_law_least", none)) fd (["nums", "most"] : List Str) (sp2 fs_least) := by
  refine FunD.ok F sc_law_least len2 (fun cdv A outer s H vs Q E hr h => ?_)
  obtain ⟨a, b, rfl, h⟩ := h
  refine ⟨_, (pss_cons (ps_set (i := 2) sc_law_least.nd rfl (by first | exact Or.inl rfl | exact Or.inr rfl) (pe_callTy (callK rList1 (K := K) rfl o_list1) (by rfl) L.f_list (by decide +kernel) (pa_cons (pv 0) pa_nil)))
    (pss_cons (ps_for (passes_of rfl) rfl (pi_range1 (by rfl) L.f_range (pa_cons (pe_op o_cat (pv 1) pe_int) pa_nil)) (pg_name (i := 3) sc_law_least.nd rfl (by first | exact Or.inl rfl | exact Or.inr rfl)) (pss_cons (ps_if (pt_cmpR op_eq (pe_callB (callK rMin (K := K) rfl (cr_min rfl)) (by rfl) L.f_min (by decide +kernel) (pa_cons (pe_op o_cat (pe_lst (pa_cons pe_int pa_nil)) (pv 2)) pa_nil)) pe_int (nomark _)) (pss_one (ps_ret (pv 3))) pss_nil)
    (pss_cons (ps_set (i := 4) sc_law_least.nd rfl (by first | exact Or.inl rfl | exact Or.inr rfl) (pe_op o_cat (pe_lst (pa_cons pe_int pa_nil)) (pv 2)))
    (pss_cons (ps_set (i := 5) sc_law_least.nd rfl (by first | exact Or.inl rfl | exact Or.inr rfl) (pe_op o_cat (pv 2) (pe_lst (pa_cons pe_int pa_nil))))
    (pss_one (ps_setLc (i := 2) (own := [("k", 6)]) (g := (gName 6)) (tt := tYes) rfl sc_law_least.nd rfl rfl (sw_true rfl rfl rfl (by decide +kernel)) (pi_range1 (by rfl) L.f_range (pa_cons (pe_callB (callK rLen1 (K := K) rfl o_len) (by rfl) L.f_len (by decide +kernel) (pa_cons (pv 4) pa_nil)) pa_nil)) (blkOk_by (N := ["nums", "most", "row", "n", "up", "down", "k"]) (sc := defScope s_law_least) (by decide +kernel)) (fun _ _ _ _ _ => pg_name (i := 6) sc_law_least.nd rfl (Or.inl rfl)) (fun _ _ _ _ _ => pts_nil) (fun _ _ _ _ _ => (pe_op o_cat (pe_ix (ix_seqK (K := K) rfl) (pv 4) (pv 6) (fun _ _ => rfl)) (pe_ix (ix_seqK (K := K) rfl) (pv 5) (pv 6) (fun _ _ => rfl))))))))))
    (pss_one (ps_ret pe_non)))), ?_⟩
  obtain ⟨p, ls, m, rfl, rfl, hp, hl, m0, m1, k'⟩ := h
  walk_at "zz"
  rename_i q0 H0 hq0 s0 e0
  refine z_foR (by omega) (by omega) (fun k σ' H' => ∃ (q : Addr) (ns : List Int) (x1 x2 x3 x4 : Option V), σ' = [some (.ref p), some (.int m), some (.ref q), x1, x2, x3, x4] ∧ Same H H' ∧ H' q = some (.lst (ns.map V.int)) ∧ ns.length = ls.length + k ∧ (∀ j, S31.cf ns j = S31.tpn (S31.cf ls) k j) ∧ ∀ j, j < k → ¬ S31.NN (S31.cf ls) j) ⟨q0, ls, _, _, _, _, rfl, s0, e0, rfl, fun _ => rfl, fun j hj => absurd hj (Nat.not_lt_zero _)⟩ ?_ ?_
  · rintro k σ' H' hk ⟨q, ns, x1, x2, x3, x4, rfl, sH, hq, hlen, hcf, hno⟩
    walk_at "zz"
    rename_i pz Hz hpz sz ez pc Hc hpc sc ec
    refine z_minL (ns := 0 :: ns) ec (by simp) (fun mn hm1 hm2 => ?_)
    walk_at "zz"
    refine z_d2 (fun c => ?_) (fun c => ?_)
    · subst c
      walk_at "zz"
      exact k' (some k) _ (by walk_at "sm") (.inr ⟨k, by omega, rfl, (S31.nn_list hcf).mpr (fun v hv => hm2 v (List.mem_cons_of_mem _ hv)), hno⟩)
    · have hn : ¬ S31.NN (S31.cf ls) k := fun z => by
        have z1 := (S31.nn_list hcf).mp z
        rcases List.mem_cons.mp hm1 with e | e
        · exact c e
        · have := z1 mn e
          have := hm2 0 List.mem_cons_self
          omega
      walk_at "zz"
      rename_i pz2 Hz2 hpz2 sz2 ez2 pu Hu hpu su eu pz3 Hz3 hpz3 sz3 ez3 pd Hd hpd sd ed
      have e2 : ns.map V.int ++ [V.int 0] = (ns ++ [0]).map V.int := by simp
      rw [e2] at ed
      have eu2 : Hu pu = some (.lst ((0 :: ns).map V.int)) := eu
      have ln : (((([V.int 0] : List V) ++ ns.map V.int).length : Nat) : Int) = ((ns.length + 1 : Nat) : Int) := by simp
      rw [ln]
      refine z_lcR (fun j => V.int (S31.cf (0 :: ns) j + S31.cf (ns ++ [0]) j)) (by omega) (by omega) (fun j H5 N hj s5 c5 => ⟨rfl, ?_⟩) (fun D2 HD2 hD2 sD2 hl2 => ?_)
      · have up1 : H5 pu = some (.lst ((0 :: ns).map V.int)) := by walk_at "up"
        have up2 : H5 pd = some (.lst ((ns ++ [0]).map V.int)) := by walk_at "up"
        walk_at "zz"
        refine z_ixC up1 (by omega) (by simp; omega) ?_
        walk_at "zz"
        refine z_ixC up2 (by omega) (by simp; omega) ?_
        rw [Int.toNat_natCast]
        walk_at "zz"
        exact c5 _ (fun _ _ h => h)
      · have e3 : (List.range ((ns.length + 1 : Nat) : Int).toNat).map (fun j => V.int (S31.cf (0 :: ns) j + S31.cf (ns ++ [0]) j)) = (S31.stp ns).map V.int := by
          refine List.ext_getElem (by simp [S31.stp_len]) (fun j j1 j2 => ?_)
          have j3 : j < ns.length + 1 := by simpa using j1
          simp only [List.getElem_map, List.getElem_range]
          unfold S31.stp
          rw [List.getElem_zipWith, ← S31.cf_in (xs := 0 :: ns), ← S31.cf_in (xs := ns ++ [0])]
        rw [e3] at hl2
        walk_at "zz"
        refine ⟨D2, S31.stp ns, _, _, _, _, rfl, by walk_at "sm", hl2, by rw [S31.stp_len]; omega, fun j => ?_, fun j hj => ?_⟩
        · rw [S31.cf_stp]
          exact S31.tp_congr hcf j
        · by_cases e : j = k
          · rw [e]
            exact hn
          · exact hno j (by omega)
  · rintro σ' H' ⟨q, ns, x1, x2, x3, x4, rfl, sH, hq, hlen, hcf, hno⟩
    walk_at "zz"
    exact k' none _ sH (.inl ⟨rfl, fun j hj => hno j (by omega)⟩)
theorem c_law_least (L : Lw K mg) : Cal P w K mg base 1 "_law_least" (sp2 fs_least) [] := by
  obtain ⟨fd, F⟩ := L.d_law_least
  exact ⟨⟨_, fd, ["nums", "most"], [], ok_law_least L F, L.g_law_least, F.kp, F.bindsN (fun _ _ _ _ _ _ us hl => match us, hl with | [_, _], _ => rfl), .nil⟩⟩
end
def fs_is : F2 := fun a b H Q _ => ∃ r s : Option Nat, a = oV r ∧ b = oV s ∧ Q (.bl (decide (r = s))) H
section
variable {P : Program} {w : World} {K : Frag} {mg : Str → Option Value} {base : Heap}
theorem ok_law_is (L : Lw K mg) {fd : FuncData} (F : FunD K "_law_is" "_law_is" (defArgs s_law_is) (defBody s_law_is) (defScope s_law_is) (df_law_is.dvs K) (df_law_is.kws K) (He.fAd K ("_law_is", none)) fd) : FnOk P w K mg base (L2N.CX P w) 1 (He.fAd K ("_law_is", none)) fd (["told", "due"] : List Str) (sp2 fs_is) := by
  refine FunD.ok F sc_law_is len2 (fun cdv A outer s H vs Q E hr h => ?_)
  obtain ⟨a, b, rfl, h⟩ := h
  refine ⟨_, (pss_cons (ps_if (pt_cmpR o_isN (pv 1) pe_non (nomark _)) (pss_one (ps_ret (pe_cmpR o_isN (pv 0) pe_non (nomark _)))) pss_nil)
    (pss_one (ps_ret (pe_and (pe_callB (callK rIsi (K := K) rfl call_isi) (by rfl) L.f_isinstance (by decide +kernel) (pa_cons (pv 0) (pa_cons (pe_ty "int" (by rfl) L.f_int (by decide +kernel)) pa_nil))) (pe_and (pe_not (pe_callB (callK rIsi (K := K) rfl call_isi) (by rfl) L.f_isinstance (by decide +kernel) (pa_cons (pv 0) (pa_cons (pe_ty "bool" (by rfl) L.f_bool (by decide +kernel)) pa_nil)))) (pe_one (pe_cmpR op_eq (pv 0) (pv 1) (nomark _)))))))), ?_⟩
  obtain ⟨r, s, ha, hb, q⟩ := h
  cases s with
  | none =>
    obtain rfl : b = V.non := hb
    cases r with
    | none =>
      obtain rfl : a = V.non := ha
      walk_at "zz"
      exact q
    | some n =>
      obtain rfl : a = V.int n := ha
      walk_at "zz"
      exact q
  | some m =>
    obtain rfl : b = V.int m := hb
    cases r with
    | none =>
      obtain rfl : a = V.non := ha
      walk_at "zz"
      exact q
    | some n =>
      obtain rfl : a = V.int n := ha
      walk_at "zz"
      have e : decide (((n : Nat) : Int) = ((m : Nat) : Int)) = decide ((some n : Option Nat) = some m) := by
        rw [Bool.eq_iff_iff]
        simp
        omega
      rw [e]
      exact q
theorem c_law_is (L : Lw K mg) : Cal P w K mg base 1 "_law_is" (sp2 fs_is) [] := by
  obtain ⟨fd, F⟩ := L.d_law_is
  exact ⟨⟨_, fd, ["told", "due"], [], ok_law_is L F, L.g_law_is, F.kp, F.bindsN (fun _ _ _ _ _ _ us hl => match us, hl with | [_, _], _ => rfl), .nil⟩⟩
end
end T

set_option maxHeartbeats 4000000
namespace T
open PySem PySem.Spec PyProof.Rows L2 Z
/-! the readings' steps, as one word: walk_at "z" (one step), "zz" (as far as it goes), "up" (a fact carried here) -/
local macro_rules | `(tactic| walk_at "up") => `(tactic| first
  | assumption
  | (refine' IsR.mono (by assumption) ?zup; case zup => walk_at "up")
  | (refine' IsE.mono (by assumption) ?zup; case zup => walk_at "up")
  | (refine' Same.at (by assumption) ?zup; case zup => walk_at "up")
  | (refine' SqL.of ?zup; case zup => walk_at "up")
  | (refine' L2.Same.seq (by assumption) ?zup; case zup => walk_at "up"))
local macro_rules | `(tactic| walk_at "z") => `(tactic| first
  | ((with_reducible refine' z_var ?zvh ?_); (case zvh => exact rfl))
  | with_reducible refine z_c ?_
  | with_reducible refine z_cons ?_
  | with_reducible refine z_nil ?_
  | with_reducible refine z_op ?_
  | with_reducible refine z_nx ?_
  | with_reducible refine z_seq ?_
  | with_reducible refine z_asg ?_
  | with_reducible refine z_asgG ?_
  | with_reducible refine z_call ?_
  | with_reducible refine z_sq0 ?_
  | with_reducible refine z_sq1 ?_
  | with_reducible refine z_ifS ?_
  | with_reducible refine z_test ?_
  | with_reducible refine z_tb ?_
  | with_reducible refine z_bl ?_
  | with_reducible refine z_blI ?_
  | with_reducible refine z_ret ?_
  | with_reducible refine z_rt ?_
  | with_reducible refine z_T ?_
  | with_reducible refine z_F ?_
  | with_reducible refine z_add ?_
  | with_reducible refine z_sub ?_
  | with_reducible refine z_neg ?_
  | with_reducible refine z_un ?_
  | with_reducible refine z_eqI ?_
  | with_reducible refine z_neI ?_
  | with_reducible refine z_lt ?_
  | with_reducible refine z_le ?_
  | with_reducible refine z_gt ?_
  | with_reducible refine z_ge ?_
  | with_reducible refine z_not ?_
  | with_reducible refine z_and ?_
  | with_reducible refine z_or ?_
  | with_reducible refine z_andV ?_
  | with_reducible refine z_orV ?_
  | with_reducible refine z_notV ?_
  | with_reducible refine z_if ?_
  | with_reducible refine z_cb ?_
  | with_reducible refine z_int1 ?_
  | with_reducible refine z_intb ?_
  | with_reducible refine z_abs ?_
  | with_reducible refine z_gcd ?_
  | with_reducible refine z_isi_ii ?_
  | with_reducible refine z_isi_ib ?_
  | with_reducible refine z_next ?_
  | with_reducible refine z_drop ?_
  | with_reducible refine z_par ?_
  | with_reducible refine z_par2 ?_
  | with_reducible refine z_tupN ?_
  | with_reducible refine z_lstN ?_
  | ((with_reducible refine' z_nt ?zl1 ?_); (case zl1 => exact Nat.le_of_ble_eq_true rfl); intro p H' hp hs he)
  | ((with_reducible refine' z_gtup ?zl1 ?zl2 ?_); (case zl1 => walk_at "up"); (case zl2 => exact rfl))
  | with_reducible refine z_bk ?_
  | with_reducible refine z_ct ?_
  | with_reducible refine z_break ?_
  | with_reducible refine z_cont ?_
  | with_reducible refine z_retN ?_
  | with_reducible refine z_nn ?_
  | with_reducible refine z_mk ?_
  | with_reducible refine z_gn ?_
  | with_reducible refine z_gcons ?_
  | with_reducible refine z_gnil ?_
  | with_reducible refine z_mt ?_
  | with_reducible refine z_mko ?_
  | with_reducible refine z_for2 ?_
  | with_reducible refine z_ownI ?_
  | ((with_reducible refine' z_lenL ?zl1 ?_); (case zl1 => walk_at "up"))
  | ((with_reducible refine' z_ixT ?zl1 ?zl2 ?_); (case zl1 => walk_at "up"); (case zl2 => exact rfl))
  | ((with_reducible refine' z_mulL ?zl1 ?zl2 ?_); (case zl1 => omega); (case zl2 => omega))
  | ((with_reducible refine' z_mulR ?zl1 ?zl2 ?_); (case zl1 => omega); (case zl2 => omega))
  | ((with_reducible refine' z_divS ?zl1 ?zl2 ?_); (case zl1 => omega); (case zl2 => omega))
  | ((with_reducible refine' z_mulW ?zl1 ?zl2 ?zl3 ?zl4 ?_); (case zl1 => omega); (case zl2 => omega); (case zl3 => omega); (case zl4 => omega))
  | ((with_reducible refine' z_divW ?zl1 ?zl2 ?_); (case zl1 => omega); (case zl2 => omega)))
local macro_rules | `(tactic| walk_at "zz") => `(tactic| repeat (walk_at "z"))
local macro_rules | `(tactic| walk_at "z") => `(tactic| with_reducible refine z_lstN ?_)
local macro_rules | `(tactic| walk_at "z") => `(tactic| with_reducible refine z_p6 ?_)
local macro_rules | `(tactic| walk_at "z") => `(tactic| with_reducible refine z_p12 ?_)
local macro_rules | `(tactic| walk_at "z") => `(tactic| with_reducible refine z_p13 ?_)
local macro_rules | `(tactic| walk_at "z") => `(tactic| with_reducible refine z_calln ?_)
local macro_rules | `(tactic| walk_at "z") => `(tactic| with_reducible refine z_xfS ?_)
local macro_rules | `(tactic| walk_at "z") => `(tactic| with_reducible refine z_lcS ?_)
local macro_rules | `(tactic| walk_at "z") => `(tactic| with_reducible refine z_lcRS ?_)
local macro_rules | `(tactic| walk_at "z") => `(tactic| with_reducible refine z_lcZS ?_)
local macro_rules | `(tactic| walk_at "z") => `(tactic| with_reducible refine z_foS ?_)
local macro_rules | `(tactic| walk_at "z") => `(tactic| with_reducible refine z_for1 ?_)
local macro_rules | `(tactic| walk_at "z") => `(tactic| with_reducible refine z_tsl ?_)
local macro_rules | `(tactic| walk_at "z") => `(tactic| with_reducible refine z_np ?_)
local macro_rules | `(tactic| walk_at "z") => `(tactic| with_reducible refine z_pt ?_)
local macro_rules | `(tactic| walk_at "z") => `(tactic| with_reducible refine z_pti ?_)
local macro_rules | `(tactic| walk_at "z") => `(tactic| with_reducible refine z_catI ?_)
local macro_rules | `(tactic| walk_at "z") => `(tactic| with_reducible refine z_isNI ?_)
local macro_rules | `(tactic| walk_at "z") => `(tactic| with_reducible refine z_isNN ?_)
local macro_rules | `(tactic| walk_at "z") => `(tactic| with_reducible refine z_notNI ?_)
local macro_rules | `(tactic| walk_at "z") => `(tactic| with_reducible refine z_notNN ?_)
local macro_rules | `(tactic| walk_at "z") => `(tactic| with_reducible refine z_gsub ?_)
local macro_rules | `(tactic| walk_at "z") => `(tactic| with_reducible refine z_isNb ?_)
local macro_rules | `(tactic| walk_at "z") => `(tactic| with_reducible refine z_notNb ?_)
local macro_rules | `(tactic| walk_at "z") => `(tactic| ((with_reducible refine' z_nlR ?zl1 ?_); (case zl1 => exact Nat.le_of_ble_eq_true rfl); intro p H' hp hs he))
local macro_rules | `(tactic| walk_at "z") => `(tactic| ((with_reducible refine' z_repR ?zl1 ?zl2 ?_); (case zl1 => omega); (case zl2 => omega)))
local macro_rules | `(tactic| walk_at "z") => `(tactic| ((with_reducible refine' z_repL ?zl1 ?zl2 ?_); (case zl1 => omega); (case zl2 => omega)))
local macro_rules | `(tactic| walk_at "z") => `(tactic| ((with_reducible refine' z_lenLst ?zl1 ?_); (case zl1 => walk_at "up")))
local macro_rules | `(tactic| walk_at "z") => `(tactic| ((with_reducible refine' z_cat ?zl1 ?zl2 ?zl3 ?_); (case zl1 => walk_at "up"); (case zl2 => walk_at "up"); (case zl3 => (simp only [List.length_map, List.length_cons, List.length_nil, List.length_append, List.length_replicate]; omega)); intro p H' hp hs he))
local macro_rules | `(tactic| walk_at "z") => `(tactic| with_reducible refine z_sfl ?_)
theorem sameF {H H1 H2 : Hp} (h : Same H1 H2) (e : Same H H1) : Same H H2 := e.trans h
local macro_rules | `(tactic| walk_at "sm") => `(tactic| first
  | assumption
  | exact fun _ _ h => h
  | (refine' sameF (by assumption) ?zsm; case zsm => walk_at "sm"))
local macro_rules | `(tactic| walk_at "up") => `(tactic| first
  | assumption
  | (refine' IsPool.mono (by assumption) ?zup; case zup => walk_at "up")
  | (refine' IsP.mono (by assumption) ?zup; case zup => walk_at "up")
  | (refine' Same.at (by assumption) ?zup; case zup => walk_at "up")
  | (refine' But.at (by assumption) ?zne ?zup; (case zne => (first | assumption | exact Ne.symm (by assumption))); (case zup => walk_at "up"))
  | (refine' IsPool.of ?zup; case zup => walk_at "up"))
local macro_rules | `(tactic| walk_at "bt") => `(tactic| first
  | assumption
  | exact fun _ _ _ h => h
  | (refine' But.trans ?zsm (by assumption); case zsm => walk_at "bt")
  | (refine' But.trans ?zsm (But.of (by assumption)); case zsm => walk_at "bt"))
local macro_rules | `(tactic| walk_at "z") => `(tactic| ((with_reducible refine' u_take ?zl1 ?zl2 ?zl3 ?zl4 ?_); (case zl1 => walk_at "up"); (case zl2 => omega); (case zl3 => omega); (case zl4 => omega); intro r H' r0 r1 hP hB))
local macro_rules | `(tactic| walk_at "z") => `(tactic| ((with_reducible refine' u_turn ?zl1 ?zl2 ?zl3 ?zl4 ?_); (case zl1 => walk_at "up"); (case zl2 => omega); (case zl3 => omega); (case zl4 => omega); intro r H' r0 r1 hP hB))
local macro_rules | `(tactic| walk_at "z") => `(tactic| with_reducible refine z_isi_ni ?_)
local macro_rules | `(tactic| walk_at "z") => `(tactic| ((with_reducible refine' z_listL ?zl1 ?_); (case zl1 => (refine' SqL.of ?zup; case zup => walk_at "up")); intro p H' hp hs he))

theorem u_mkP {K : Frag} {H : Hp} {Q : VK} {E : XK} {q : Addr} {ns : List Int} {o : Int} (h : H q = some (.lst (ns.map V.int))) (hl : ns.length ≤ 200) (o1 : 1 ≤ o) (o2 : o < 18446744073709551616) (k : ∀ x H' ls, Same H H' → IsP K H' x ls → S31.Low ns ls → Q (.ref x) H') : zMk (He.ga K "Poly") (sp3 (fs_pinit K)) [] E [.ref q, .int o] H Q :=
  fun x dx hx hdx ne => ⟨_, _, _, rfl, x, dx, q, H, ns, o, rfl, rfl, rfl, rfl, hx, hdx, ne, h, hl, o1, o2, fun H' ls s p l => ⟨rfl, k x H' ls s p l⟩⟩
theorem u_lp {K : Frag} {H : Hp} {Q : VK} {E : XK} {p : Addr} {ns ls : List Int} {m : Int} (h : IsP K H p ls) (lw : S31.Low ns ls) (hl : ns.length ≤ 200) (m0 : 0 ≤ m) (m1 : m ≤ 300) (k : ∀ r H', Same H H' → S31.LP (S31.cf ns) m.toNat r → Q (oV r) H') : sp2 (fs_lp K) [.ref p, .int m] H Q E :=
  ⟨_, _, rfl, p, ls, m, rfl, rfl, h, by have := lw.1; omega, fun _ r H' s q => k r H' s (lw.lp q), fun z => absurd ⟨m0, m1⟩ z⟩
theorem u_is {r s : Option Nat} {H : Hp} {Q : VK} {E : XK} (e : r = s) (q : Q (.bl true) H) : sp2 fs_is [oV r, oV s] H Q E := ⟨_, _, rfl, r, s, rfl, rfl, by rw [decide_eq_true e]; exact q⟩
theorem u_least {p : Addr} {ns : List Int} {m : Int} {H : Hp} {Q : VK} {E : XK} (h : H p = some (.lst (ns.map V.int))) (hl : ns.length ≤ 1000) (m0 : 0 ≤ m) (m1 : m ≤ 1000) (k : ∀ r H', Same H H' → S31.LP (S31.cf ns) m.toNat r → Q (oV r) H') : sp2 fs_least [.ref p, .int m] H Q E := ⟨_, _, rfl, p, ns, m, rfl, rfl, h, hl, m0, m1, k⟩
local macro_rules | `(tactic| walk_at "z") => `(tactic| ((with_reducible refine' u_mkP ?zl1 ?zl2 ?zl3 ?zl4 ?_); (case zl1 => walk_at "up"); (case zl2 => (first | omega | (simp only [List.length_cons, List.length_nil]; omega))); (case zl3 => omega); (case zl4 => omega); intro x H' ls hs hP hL))

def fs_asked : F3 := fun a b c H Q _ => ∃ (p : Addr) (ns : List Int) (o m : Int), a = .ref p ∧ b = .int o ∧ c = .int m ∧ H p = some (.lst (ns.map V.int)) ∧ ns.length ≤ 200 ∧ 1 ≤ o ∧ o < 18446744073709551616 ∧ 0 ≤ m ∧ m ≤ 60 ∧ ∀ H', Same H H' → Q (.bl true) H'
section
variable {P : Program} {w : World} {K : Frag} {mg : Str → Option Value} {base : Heap}
theorem ok_law_asked (L : Lw K mg) {fd : FuncData} (F : FunD K "_law_asked" "_law_asked" (defArgs s_law_asked) (defBody s_law_asked) (defScope s_law_asked) (df_law_asked.dvs K) (df_law_asked.kws K) (He.fAd K ("_law_asked", none)) fd) : FnOk P w K mg base (L2N.CX P w) 6 (He.fAd K ("_law_asked", none)) fd (["nums", "over", "most"] : List Str) (sp3 fs_asked) := by
  refine FunD.ok F sc_law_asked len3 (fun cdv A outer s H vs Q E hr h => ?_)
  obtain ⟨a, b, c, rfl, h⟩ := h
  refine ⟨_, (pss_cons (ps_set (i := 3) sc_law_asked.nd rfl (by first | exact Or.inl rfl | exact Or.inr rfl) (pe_c (c_law_least (K := K) L) hr (by decide) (L2N.takes_of rfl rfl rfl rfl) (pa_cons (pv 0) (pa_cons pe_int pa_nil))))
    (pss_cons (ps_set (i := 4) sc_law_asked.nd rfl (by first | exact Or.inl rfl | exact Or.inr rfl) (pe_lst (pa_cons pe_int (pa_cons (pv 2) (pa_cons pe_int pa_nil)))))
    (pss_cons (ps_if (pt_cmpR o_notN (pv 3) pe_non (nomark _)) (pss_cons (ps_expr (pe_bm PySem.F.plainAttrs_list PySem.F.slot_list_append PySem.F.type_list_append mt_append (pv 4) (pa_cons (pv 3) pa_nil)))
    (pss_cons (ps_expr (pe_bm PySem.F.plainAttrs_list PySem.F.slot_list_append PySem.F.type_list_append mt_append (pv 4) (pa_cons (pe_callB (o_max2 rfl) (by rfl) L.f_max (by decide +kernel) (pa_cons pe_int (pa_cons (pe_op o_sub (pv 3) pe_int) pa_nil))) pa_nil)))
    (pss_one (ps_expr (pe_bm PySem.F.plainAttrs_list PySem.F.slot_list_append PySem.F.type_list_append mt_append (pv 4) (pa_cons (pe_callB (o_min2 rfl) (by rfl) L.f_min (by decide +kernel) (pa_cons pe_int (pa_cons (pe_op o_cat (pv 3) pe_int) pa_nil))) pa_nil)))))) pss_nil)
    (pss_cons (ps_for (passes_of rfl) rfl (pi_listK (K := K) rfl (pv 4)) (pg_name (i := 2) sc_law_asked.nd rfl (by first | exact Or.inl rfl | exact Or.inr rfl)) (pss_cons (ps_set (i := 5) sc_law_asked.nd rfl (by first | exact Or.inl rfl | exact Or.inr rfl) (pv 3))
    (pss_cons (ps_if (PW.pt (pw_and (pt_cmpR o_notN (pv 3) pe_non (nomark _)) (pw_and1 (pt_cmpR o_gt (pv 3) (pv 2) (nomark _))))) (pss_one (ps_set (i := 5) sc_law_asked.nd rfl (by first | exact Or.inl rfl | exact Or.inr rfl) pe_non)) pss_nil)
    (pss_one (ps_if (pt_not (pt_val (pe_c (c_law_is (K := K) L) hr (by decide) (L2N.takes_of rfl rfl rfl rfl) (pa_cons (pe_c (c_least_power (K := K) L) hr (by decide) (L2N.takes_of rfl rfl rfl rfl) (pa_cons (pe_mk (c_PolyD_initD (K := K) L) hr (by decide) (L2N.takes_of rfl rfl rfl rfl) (pa_cons (pe_callTy (callK rList1 (K := K) rfl o_list1) (by rfl) L.f_list (by decide +kernel) (pa_cons (pv 0) pa_nil)) (pa_cons (pv 1) pa_nil))) (pa_cons (pv 2) pa_nil))) (pa_cons (pv 5) pa_nil))))) (pss_one (ps_ret pe_bl)) pss_nil)))))
    (pss_one (ps_ret pe_bl)))))), ?_⟩
  obtain ⟨p, ns, o, m, rfl, rfl, rfl, hp, hl, o1, o2, m0, m1, k⟩ := h
  walk_at "zz"
  refine u_least hp (by omega) (by decide) (by decide) (fun r0 H0 s0 hr0 => ?_)
  have sixty : (60 : Int).toNat = 60 := rfl
  rw [sixty] at hr0
  cases r0 with
  | none =>
    rw [show oV none = V.non from rfl]
    walk_at "zz"
    rename_i w Hw hw sw' ew
    have sw : Same H Hw := s0.trans sw'
    obtain ⟨ws, hwe, hws⟩ : ∃ ws : List Int, [V.int 0, .int m, .int 60] = ws.map V.int ∧ ∀ z, z ∈ ws → 0 ≤ z ∧ z ≤ 60 := ⟨[0, m, 60], rfl, by
      intro z hz
      simp only [List.mem_cons, List.not_mem_nil, or_false] at hz
      omega⟩
    rw [hwe] at ew
    refine z_foV (xs := ws.map V.int) ew (fun i σ' H' => ∃ (x2 x5 : Option V), σ' = [some (.ref p), some (.int o), x2, some .non, some (.ref w), x5] ∧ Same H H' ∧ H' w = some (.lst (ws.map V.int))) ⟨_, _, rfl, sw, ew⟩ (fun i σ' H' z => by obtain ⟨_, _, _, _, h⟩ := z; exact h) ?_ ?_
    · rintro i v σ' H' hv ⟨x2, x5, rfl, sH, ew'⟩
      rw [List.getElem?_map] at hv
      obtain ⟨mm, hm1, hm2⟩ := Option.map_eq_some_iff.mp hv
      subst hm2
      have hmm := hws mm (List.mem_of_getElem? hm1)
      walk_at "zz"
      refine u_lp (by walk_at "up") (by assumption) hl (by omega) (by omega) (fun r Hr sr lr => ?_)
      walk_at "zz"
      refine u_is (S31.lp_one lr (S31.lp_less hr0 (by omega))) ?_
      walk_at "zz"
      exact ⟨_, _, rfl, by walk_at "sm", by walk_at "up"⟩
    · rintro σ' H' ⟨x2, x5, rfl, sH, ew'⟩
      walk_at "zz"
      exact k H' sH
  | some n =>
    have n60 : n ≤ 60 := by
      rcases hr0 with ⟨e, _⟩ | ⟨n', h1, e, _, _⟩
      · cases e
      · cases e
        exact h1
    rw [show oV (some n) = V.int n from rfl]
    walk_at "zz"
    rename_i w Hw hw sw' ew0
    have hw0 := Same.none s0 hw
    refine z_app rfl ew0 ?_
    walk_at "zz"
    refine z_ap ew0 (by simp) ?_
    walk_at "zz"
    refine z_app rfl upd_same ?_
    walk_at "zz"
    refine z_max2 ?_
    walk_at "zz"
    refine z_ap upd_same (by simp) ?_
    walk_at "zz"
    refine z_app rfl upd_same ?_
    walk_at "zz"
    refine z_min2 ?_
    walk_at "zz"
    refine z_ap upd_same (by simp) ?_
    obtain ⟨ws, hwe, hws⟩ : ∃ ws : List Int, [V.int 0, .int m, .int 60] ++ [V.int n] ++ [V.int (max 0 ((n : Int) - 1))] ++ [V.int (min 60 ((n : Int) + 1))] = ws.map V.int ∧ ∀ z, z ∈ ws → 0 ≤ z ∧ z ≤ 60 := ⟨[0, m, 60, n, max 0 ((n : Int) - 1), min 60 ((n : Int) + 1)], rfl, by
      intro z hz
      simp only [List.mem_cons, List.not_mem_nil, or_false] at hz
      omega⟩
    rw [hwe]
    have ew : (upd (upd (upd Hw w (.lst ([V.int 0, .int m, .int 60] ++ [V.int n]))) w (.lst ([V.int 0, .int m, .int 60] ++ [V.int n] ++ [V.int (max 0 ((n : Int) - 1))]))) w (.lst (ws.map V.int))) w = some (.lst (ws.map V.int)) := upd_same
    have sw : Same H (upd (upd (upd Hw w (.lst ([V.int 0, .int m, .int 60] ++ [V.int n]))) w (.lst ([V.int 0, .int m, .int 60] ++ [V.int n] ++ [V.int (max 0 ((n : Int) - 1))]))) w (.lst (ws.map V.int))) := Same.put (Same.put (Same.put (s0.trans sw') hw0) hw0) hw0
    generalize (upd (upd (upd Hw w (.lst ([V.int 0, .int m, .int 60] ++ [V.int n]))) w (.lst ([V.int 0, .int m, .int 60] ++ [V.int n] ++ [V.int (max 0 ((n : Int) - 1))]))) w (.lst (ws.map V.int))) = Hv at *
    walk_at "zz"
    refine z_foV (xs := ws.map V.int) ew (fun i σ' H' => ∃ (x2 x5 : Option V), σ' = [some (.ref p), some (.int o), x2, some (.int n), some (.ref w), x5] ∧ Same H H' ∧ H' w = some (.lst (ws.map V.int))) ⟨_, _, rfl, sw, ew⟩ (fun i σ' H' z => by obtain ⟨_, _, _, _, h⟩ := z; exact h) ?_ ?_
    · rintro i v σ' H' hv ⟨x2, x5, rfl, sH, ew'⟩
      rw [List.getElem?_map] at hv
      obtain ⟨mm, hm1, hm2⟩ := Option.map_eq_some_iff.mp hv
      subst hm2
      have hmm := hws mm (List.mem_of_getElem? hm1)
      walk_at "zz"
      refine z_d2 (fun cm => ?_) (fun cm => ?_)
      · walk_at "zz"
        refine u_lp (by walk_at "up") (by assumption) hl (by omega) (by omega) (fun r Hr sr lr => ?_)
        have du := S31.lp_less (b := mm.toNat) hr0 (by omega)
        have c2 : mm.toNat < n := by omega
        simp only [c2, if_true] at du
        walk_at "zz"
        refine u_is (r := r) (s := none) (S31.lp_one lr du) ?_
        walk_at "zz"
        exact ⟨_, _, rfl, by walk_at "sm", by walk_at "up"⟩
      · walk_at "zz"
        refine u_lp (by walk_at "up") (by assumption) hl (by omega) (by omega) (fun r Hr sr lr => ?_)
        have du := S31.lp_less (b := mm.toNat) hr0 (by omega)
        have c2 : ¬ mm.toNat < n := by omega
        simp only [c2, if_false] at du
        walk_at "zz"
        refine u_is (r := r) (s := some n) (S31.lp_one lr du) ?_
        walk_at "zz"
        exact ⟨_, _, rfl, by walk_at "sm", by walk_at "up"⟩
    · rintro σ' H' ⟨x2, x5, rfl, sH, ew'⟩
      walk_at "zz"
      exact k H' sH
theorem c_law_asked (L : Lw K mg) : Cal P w K mg base 6 "_law_asked" (sp3 fs_asked) [] := by
  obtain ⟨fd, F⟩ := L.d_law_asked
  exact ⟨⟨_, fd, ["nums", "over", "most"], [], ok_law_asked L F, L.g_law_asked, F.kp, F.bindsN (fun _ _ _ _ _ _ us hl => match us, hl with | [_, _, _], _ => rfl), .nil⟩⟩
end
def fs_fell (K : Frag) : F2 := fun a b H Q _ => ∃ (p : Addr) (ls : List Int) (m : Int), a = .ref p ∧ b = .int m ∧ IsP K H p ls ∧ ls.length ≤ 200 ∧ ¬ (0 ≤ m ∧ m ≤ 300) ∧ ∀ H', Same H H' → Q (.int m) H'
section
variable {P : Program} {w : World} {K : Frag} {mg : Str → Option Value} {base : Heap}
theorem ok_law_fell (L : Lw K mg) {fd : FuncData} (F : FunD K "_law_fell" "_law_fell" (defArgs s_law_fell) (defBody s_law_fell) (defScope s_law_fell) (df_law_fell.dvs K) (df_law_fell.kws K) (He.fAd K ("_law_fell", none)) fd) : FnOk P w K mg base (L2N.CX P w) 5 (He.fAd K ("_law_fell", none)) fd (["poly", "most"] : List Str) (sp2 (fs_fell K)) := by
  refine FunD.ok F sc_law_fell len2 (fun cdv A outer s H vs Q E hr h => ?_)
  obtain ⟨a, b, rfl, h⟩ := h
  refine ⟨_, (pss_cons (L2N.ps_try_as (i := 2) rfl rfl sc_law_fell.nd rfl rfl ⟨rfl, by decide, Or.inl L.g_NoughtError⟩ (L2N.takes_of rfl rfl rfl rfl)
    (fun W pn xe tk po => (pss_one (ps_expr (pe_c (c_least_power (K := K) L) hr (by decide) tk (pa_cons (pv 0) (pa_cons (pv 1) pa_nil))))))
    (fun a oe cls dd pn hz hf => (pss_one (ps_if (PW.pt (pw_and (pt_val (pe_callB (call_isEx L.ec_OutOfBounds (L2N.Zn.zc hz) hf) (by rfl) L.f_isinstance (by decide +kernel) (pa_cons (pv 2) (pa_cons (pe_cls L.g_OutOfBounds) pa_nil)))) (pw_and1 (pt_not (pt_val (pe_callB (call_isEx L.ec_OutOfBounds (L2N.Zn.zc hz) hf) (by rfl) L.f_isinstance (by decide +kernel) (pa_cons (pv 2) (pa_cons (pe_cls L.g_BadSize) pa_nil)))))))) (pss_one (ps_ret (pe_xf L.xf_OutOfBounds L.na_OutOfBounds_value (L2N.Zn.zc hz) hf (pv 2)))) pss_nil))))
    (pss_one (ps_ret pe_non))), ?_⟩
  obtain ⟨p, ls, m, rfl, rfl, hP, hl, no, k⟩ := h
  walk_at "zz"
  refine ⟨_, _, rfl, p, ls, m, rfl, rfl, hP, hl, fun z => absurd z no, fun _ d H' s hd => ?_⟩
  refine z_as L.xm_OutOfBounds_NoughtError (fun a ha => ?_)
  walk_at "zz"
  refine z_isX hd L.kt_OutOfBounds_OutOfBounds ?_
  walk_at "zz"
  refine z_isX hd L.kt_OutOfBounds_BadSize ?_
  walk_at "zz"
  refine z_xf hd lkA ?_
  walk_at "zz"
  exact k _ s
theorem c_law_fell (L : Lw K mg) : Cal P w K mg base 5 "_law_fell" (sp2 (fs_fell K)) [] := by
  obtain ⟨fd, F⟩ := L.d_law_fell
  exact ⟨⟨_, fd, ["poly", "most"], [], ok_law_fell L F, L.g_law_fell, F.kp, F.bindsN (fun _ _ _ _ _ _ us hl => match us, hl with | [_, _], _ => rfl), .nil⟩⟩
end
def fs_bounds (K : Frag) : F1 := fun a H Q _ => ∃ (p : Addr) (ls : List Int), a = .ref p ∧ IsP K H p ls ∧ ls.length ≤ 200 ∧ ∀ H', Same H H' → Q (.bl true) H'
section
variable {P : Program} {w : World} {K : Frag} {mg : Str → Option Value} {base : Heap}
theorem ok_law_bounds (L : Lw K mg) {fd : FuncData} (F : FunD K "_law_bounds" "_law_bounds" (defArgs s_law_bounds) (defBody s_law_bounds) (defScope s_law_bounds) (df_law_bounds.dvs K) (df_law_bounds.kws K) (He.fAd K ("_law_bounds", none)) fd) : FnOk P w K mg base (L2N.CX P w) 6 (He.fAd K ("_law_bounds", none)) fd (["poly"] : List Str) (sp1 (fs_bounds K)) := by
  refine FunD.ok F sc_law_bounds len1 (fun cdv A outer s H vs Q E hr h => ?_)
  obtain ⟨a, rfl, h⟩ := h
  refine ⟨_, (pss_cons (ps_set (i := 1) sc_law_bounds.nd rfl (by first | exact Or.inl rfl | exact Or.inr rfl) (pe_c (c_law_fell (K := K) L) hr (by decide) (L2N.takes_of rfl rfl rfl rfl) (pa_cons (pv 0) (pa_cons (pe_un o_neg pe_int) pa_nil))))
    (pss_cons (ps_if (PW.pt (pw_or (pt_not (pt_val (pe_callB (callK rIsi (K := K) rfl call_isi) (by rfl) L.f_isinstance (by decide +kernel) (pa_cons (pv 1) (pa_cons (pe_ty "int" (by rfl) L.f_int (by decide +kernel)) pa_nil))))) (pw_or1 (pt_cmpR op_ne (pv 1) (pe_un o_neg pe_int) (nomark _))))) (pss_one (ps_ret pe_bl)) pss_nil)
    (pss_cons (ps_set (i := 1) sc_law_bounds.nd rfl (by first | exact Or.inl rfl | exact Or.inr rfl) (pe_c (c_law_fell (K := K) L) hr (by decide) (L2N.takes_of rfl rfl rfl rfl) (pa_cons (pv 0) (pa_cons pe_int pa_nil))))
    (pss_one (ps_ret (pe_and (pe_callB (callK rIsi (K := K) rfl call_isi) (by rfl) L.f_isinstance (by decide +kernel) (pa_cons (pv 1) (pa_cons (pe_ty "int" (by rfl) L.f_int (by decide +kernel)) pa_nil))) (pe_one (pe_cmpR op_eq (pv 1) pe_int (nomark _))))))))), ?_⟩
  obtain ⟨p, ls, rfl, hP, hl, k⟩ := h
  walk_at "zz"
  refine ⟨_, _, rfl, p, ls, -1, rfl, rfl, hP, hl, by omega, fun H1 s1 => ?_⟩
  walk_at "zz"
  refine z_dT rfl ?_
  walk_at "zz"
  refine ⟨_, _, rfl, p, ls, 301, rfl, rfl, hP.mono s1, hl, by omega, fun H2 s2 => ?_⟩
  walk_at "zz"
  exact k _ (s1.trans s2)
theorem c_law_bounds (L : Lw K mg) : Cal P w K mg base 6 "_law_bounds" (sp1 (fs_bounds K)) [] := by
  obtain ⟨fd, F⟩ := L.d_law_bounds
  exact ⟨⟨_, fd, ["poly"], [], ok_law_bounds L F, L.g_law_bounds, F.kp, F.bindsN (fun _ _ _ _ _ _ us hl => match us, hl with | [_], _ => rfl), .nil⟩⟩
end
end T

set_option maxHeartbeats 4000000
namespace T
open PySem PySem.Spec PyProof.Rows L2 Z
/-! the readings' steps, as one word: walk_at "z" (one step), "zz" (as far as it goes), "up" (a fact carried here) -/
local macro_rules | `(tactic| walk_at "up") => `(tactic| first
  | assumption
  | (refine' IsR.mono (by assumption) ?zup; case zup => walk_at "up")
  | (refine' IsE.mono (by assumption) ?zup; case zup => walk_at "up")
  | (refine' Same.at (by assumption) ?zup; case zup => walk_at "up")
  | (refine' SqL.of ?zup; case zup => walk_at "up")
  | (refine' L2.Same.seq (by assumption) ?zup; case zup => walk_at "up"))
local macro_rules | `(tactic| walk_at "z") => `(tactic| first
  | ((with_reducible refine' z_var ?zvh ?_); (case zvh => exact rfl))
  | with_reducible refine z_c ?_
  | with_reducible refine z_cons ?_
  | with_reducible refine z_nil ?_
  | with_reducible refine z_op ?_
  | with_reducible refine z_nx ?_
  | with_reducible refine z_seq ?_
  | with_reducible refine z_asg ?_
  | with_reducible refine z_asgG ?_
  | with_reducible refine z_call ?_
  | with_reducible refine z_sq0 ?_
  | with_reducible refine z_sq1 ?_
  | with_reducible refine z_ifS ?_
  | with_reducible refine z_test ?_
  | with_reducible refine z_tb ?_
  | with_reducible refine z_bl ?_
  | with_reducible refine z_blI ?_
  | with_reducible refine z_ret ?_
  | with_reducible refine z_rt ?_
  | with_reducible refine z_T ?_
  | with_reducible refine z_F ?_
  | with_reducible refine z_add ?_
  | with_reducible refine z_sub ?_
  | with_reducible refine z_neg ?_
  | with_reducible refine z_un ?_
  | with_reducible refine z_eqI ?_
  | with_reducible refine z_neI ?_
  | with_reducible refine z_lt ?_
  | with_reducible refine z_le ?_
  | with_reducible refine z_gt ?_
  | with_reducible refine z_ge ?_
  | with_reducible refine z_not ?_
  | with_reducible refine z_and ?_
  | with_reducible refine z_or ?_
  | with_reducible refine z_andV ?_
  | with_reducible refine z_orV ?_
  | with_reducible refine z_notV ?_
  | with_reducible refine z_if ?_
  | with_reducible refine z_cb ?_
  | with_reducible refine z_int1 ?_
  | with_reducible refine z_intb ?_
  | with_reducible refine z_abs ?_
  | with_reducible refine z_gcd ?_
  | with_reducible refine z_isi_ii ?_
  | with_reducible refine z_isi_ib ?_
  | with_reducible refine z_next ?_
  | with_reducible refine z_drop ?_
  | with_reducible refine z_par ?_
  | with_reducible refine z_par2 ?_
  | with_reducible refine z_tupN ?_
  | with_reducible refine z_lstN ?_
  | ((with_reducible refine' z_nt ?zl1 ?_); (case zl1 => exact Nat.le_of_ble_eq_true rfl); intro p H' hp hs he)
  | ((with_reducible refine' z_gtup ?zl1 ?zl2 ?_); (case zl1 => walk_at "up"); (case zl2 => exact rfl))
  | with_reducible refine z_bk ?_
  | with_reducible refine z_ct ?_
  | with_reducible refine z_break ?_
  | with_reducible refine z_cont ?_
  | with_reducible refine z_retN ?_
  | with_reducible refine z_nn ?_
  | with_reducible refine z_mk ?_
  | with_reducible refine z_gn ?_
  | with_reducible refine z_gcons ?_
  | with_reducible refine z_gnil ?_
  | with_reducible refine z_mt ?_
  | with_reducible refine z_mko ?_
  | with_reducible refine z_for2 ?_
  | with_reducible refine z_ownI ?_
  | ((with_reducible refine' z_lenL ?zl1 ?_); (case zl1 => walk_at "up"))
  | ((with_reducible refine' z_ixT ?zl1 ?zl2 ?_); (case zl1 => walk_at "up"); (case zl2 => exact rfl))
  | ((with_reducible refine' z_mulL ?zl1 ?zl2 ?_); (case zl1 => omega); (case zl2 => omega))
  | ((with_reducible refine' z_mulR ?zl1 ?zl2 ?_); (case zl1 => omega); (case zl2 => omega))
  | ((with_reducible refine' z_divS ?zl1 ?zl2 ?_); (case zl1 => omega); (case zl2 => omega))
  | ((with_reducible refine' z_mulW ?zl1 ?zl2 ?zl3 ?zl4 ?_); (case zl1 => omega); (case zl2 => omega); (case zl3 => omega); (case zl4 => omega))
  | ((with_reducible refine' z_divW ?zl1 ?zl2 ?_); (case zl1 => omega); (case zl2 => omega)))
local macro_rules | `(tactic| walk_at "zz") => `(tactic| repeat (walk_at "z"))
local macro_rules | `(tactic| walk_at "z") => `(tactic| with_reducible refine z_lstN ?_)
local macro_rules | `(tactic| walk_at "z") => `(tactic| with_reducible refine z_p6 ?_)
local macro_rules | `(tactic| walk_at "z") => `(tactic| with_reducible refine z_p12 ?_)
local macro_rules | `(tactic| walk_at "z") => `(tactic| with_reducible refine z_p13 ?_)
local macro_rules | `(tactic| walk_at "z") => `(tactic| with_reducible refine z_calln ?_)
local macro_rules | `(tactic| walk_at "z") => `(tactic| with_reducible refine z_xfS ?_)
local macro_rules | `(tactic| walk_at "z") => `(tactic| with_reducible refine z_lcS ?_)
local macro_rules | `(tactic| walk_at "z") => `(tactic| with_reducible refine z_lcRS ?_)
local macro_rules | `(tactic| walk_at "z") => `(tactic| with_reducible refine z_lcZS ?_)
local macro_rules | `(tactic| walk_at "z") => `(tactic| with_reducible refine z_foS ?_)
local macro_rules | `(tactic| walk_at "z") => `(tactic| with_reducible refine z_for1 ?_)
local macro_rules | `(tactic| walk_at "z") => `(tactic| with_reducible refine z_tsl ?_)
local macro_rules | `(tactic| walk_at "z") => `(tactic| with_reducible refine z_np ?_)
local macro_rules | `(tactic| walk_at "z") => `(tactic| with_reducible refine z_pt ?_)
local macro_rules | `(tactic| walk_at "z") => `(tactic| with_reducible refine z_pti ?_)
local macro_rules | `(tactic| walk_at "z") => `(tactic| with_reducible refine z_catI ?_)
local macro_rules | `(tactic| walk_at "z") => `(tactic| with_reducible refine z_isNI ?_)
local macro_rules | `(tactic| walk_at "z") => `(tactic| with_reducible refine z_isNN ?_)
local macro_rules | `(tactic| walk_at "z") => `(tactic| with_reducible refine z_notNI ?_)
local macro_rules | `(tactic| walk_at "z") => `(tactic| with_reducible refine z_notNN ?_)
local macro_rules | `(tactic| walk_at "z") => `(tactic| with_reducible refine z_gsub ?_)
local macro_rules | `(tactic| walk_at "z") => `(tactic| with_reducible refine z_isNb ?_)
local macro_rules | `(tactic| walk_at "z") => `(tactic| with_reducible refine z_notNb ?_)
local macro_rules | `(tactic| walk_at "z") => `(tactic| ((with_reducible refine' z_nlR ?zl1 ?_); (case zl1 => exact Nat.le_of_ble_eq_true rfl); intro p H' hp hs he))
local macro_rules | `(tactic| walk_at "z") => `(tactic| ((with_reducible refine' z_repR ?zl1 ?zl2 ?_); (case zl1 => omega); (case zl2 => omega)))
local macro_rules | `(tactic| walk_at "z") => `(tactic| ((with_reducible refine' z_repL ?zl1 ?zl2 ?_); (case zl1 => omega); (case zl2 => omega)))
local macro_rules | `(tactic| walk_at "z") => `(tactic| ((with_reducible refine' z_lenLst ?zl1 ?_); (case zl1 => walk_at "up")))
local macro_rules | `(tactic| walk_at "z") => `(tactic| ((with_reducible refine' z_cat ?zl1 ?zl2 ?zl3 ?_); (case zl1 => walk_at "up"); (case zl2 => walk_at "up"); (case zl3 => (simp only [List.length_map, List.length_cons, List.length_nil, List.length_append, List.length_replicate]; omega)); intro p H' hp hs he))
local macro_rules | `(tactic| walk_at "z") => `(tactic| with_reducible refine z_sfl ?_)
theorem sameG {H H1 H2 : Hp} (h : Same H1 H2) (e : Same H H1) : Same H H2 := e.trans h
local macro_rules | `(tactic| walk_at "sm") => `(tactic| first
  | assumption
  | exact fun _ _ h => h
  | (refine' sameG (by assumption) ?zsm; case zsm => walk_at "sm"))

theorem IsP.but {K : Frag} {H H' : Hp} {p x : Addr} {ls : List Int} (e : But p H H') (hP : IsPool H p) (h : IsP K H x ls) : IsP K H' x ls := by
  obtain ⟨dx, t, o, d, h1, h2⟩ := h
  exact ⟨dx, t, o, d, e.atI hP h1, e.atT hP h2⟩
theorem lp_at {f : Nat → Int} {L m : Int} {r : Option Nat} (h0 : 0 ≤ L) (dl : ∀ n : Nat, S31.NN f n ↔ L ≤ (n : Int)) (lp : S31.LP f m.toNat r) : (L ≤ m → r = some L.toNat) ∧ (m < L → 0 ≤ m → r = none) := by
  constructor
  · intro h
    exact S31.lp_one lp (.inr ⟨L.toNat, by omega, rfl, (dl _).mpr (by omega), fun j hj z => by have := (dl j).mp z; omega⟩)
  · intro h h1
    exact S31.lp_one lp (.inl ⟨rfl, fun j hj z => by have := (dl j).mp z; omega⟩)
theorem u_isI {r : Option Nat} {L : Int} {H : Hp} {Q : VK} {E : XK} (h0 : 0 ≤ L) (e : r = some L.toNat) (q : Q (.bl true) H) : sp2 fs_is [oV r, .int L] H Q E :=
  ⟨_, _, rfl, r, some L.toNat, rfl, by show V.int L = V.int ((L.toNat : Nat) : Int); rw [Int.toNat_of_nonneg h0], by rw [decide_eq_true e]; exact q⟩
local macro_rules | `(tactic| walk_at "up") => `(tactic| first
  | assumption
  | (refine' IsPool.mono (by assumption) ?zup; case zup => walk_at "up")
  | (refine' IsP.mono (by assumption) ?zup; case zup => walk_at "up")
  | (refine' Same.at (by assumption) ?zup; case zup => walk_at "up")
  | (refine' But.at (by assumption) ?zne ?zup; (case zne => (first | assumption | exact Ne.symm (by assumption))); (case zup => walk_at "up"))
  | (refine' IsPool.of ?zup; case zup => walk_at "up"))
local macro_rules | `(tactic| walk_at "bt") => `(tactic| first
  | assumption
  | exact fun _ _ _ h => h
  | (refine' But.trans ?zsm (by assumption); case zsm => walk_at "bt")
  | (refine' But.trans ?zsm (But.of (by assumption)); case zsm => walk_at "bt"))
local macro_rules | `(tactic| walk_at "up") => `(tactic| first
  | assumption
  | (with_reducible refine' IsPool.mono (by assumption) ?zup; case zup => walk_at "up")
  | (with_reducible refine' IsP.mono (by assumption) ?zup; case zup => walk_at "up")
  | (with_reducible refine' IsP.but (by assumption) ?zp ?zup; (case zp => walk_at "up"); (case zup => walk_at "up"))
  | (with_reducible refine' Same.at (by assumption) ?zup; case zup => walk_at "up")
  | (with_reducible refine' But.at (by assumption) ?zne ?zup; (case zne => (first | assumption | exact Ne.symm (by assumption))); (case zup => walk_at "up"))
  | fail)
local macro_rules | `(tactic| walk_at "z") => `(tactic| ((with_reducible refine' u_take ?zl1 ?zl2 ?zl3 ?zl4 ?_); (case zl1 => walk_at "up"); (case zl2 => omega); (case zl3 => omega); (case zl4 => omega); intro r H' r0 r1 hP hB))
local macro_rules | `(tactic| walk_at "z") => `(tactic| ((with_reducible refine' u_turn ?zl1 ?zl2 ?zl3 ?zl4 ?_); (case zl1 => walk_at "up"); (case zl2 => omega); (case zl3 => omega); (case zl4 => omega); intro r H' r0 r1 hP hB))
local macro_rules | `(tactic| walk_at "z") => `(tactic| with_reducible refine z_isi_ni ?_)
local macro_rules | `(tactic| walk_at "z") => `(tactic| ((with_reducible refine' z_listL ?zl1 ?_); (case zl1 => (refine' SqL.of ?zup; case zup => walk_at "up")); intro p H' hp hs he))
local macro_rules | `(tactic| walk_at "z") => `(tactic| ((with_reducible refine' u_mkP ?zl1 ?zl2 ?zl3 ?zl4 ?_); (case zl1 => walk_at "up"); (case zl2 => (first | omega | (simp only [List.length_cons, List.length_nil]; omega))); (case zl3 => omega); (case zl4 => omega); intro x H' ls hs hP hL))

def fs_deep (K : Frag) : F1 := fun a H Q _ => ∃ p : Addr, a = .ref p ∧ IsPool H p ∧ ∀ H', IsPool H' p → But p H H' → Q (.bl true) H'
section
variable {P : Program} {w : World} {K : Frag} {mg : Str → Option Value} {base : Heap}
theorem ok_law_deep (L : Lw K mg) {fd : FuncData} (F : FunD K "_law_deep" "_law_deep" (defArgs s_law_deep) (defBody s_law_deep) (defScope s_law_deep) (df_law_deep.dvs K) (df_law_deep.kws K) (He.fAd K ("_law_deep", none)) fd) : FnOk P w K mg base (L2N.CX P w) 6 (He.fAd K ("_law_deep", none)) fd (["pool"] : List Str) (sp1 (fs_deep K)) := by
  refine FunD.ok F sc_law_deep len1 (fun cdv A outer s H vs Q E hr h => ?_)
  obtain ⟨a, rfl, h⟩ := h
  refine ⟨_, (pss_cons (ps_set (i := 1) sc_law_deep.nd rfl (by first | exact Or.inl rfl | exact Or.inr rfl) pe_int)
    (pss_cons (ps_if (pt_cmpR op_eq (pe_c (c_law_take (K := K) L) hr (by decide) (L2N.takes_of rfl rfl rfl rfl) (pa_cons (pv 0) (pa_cons pe_int (pa_cons pe_int pa_nil)))) pe_int (nomark _)) (pss_one (ps_set (i := 1) sc_law_deep.nd rfl (by first | exact Or.inl rfl | exact Or.inr rfl) pe_int)) pss_nil)
    (pss_cons (ps_set (i := 2) sc_law_deep.nd rfl (by first | exact Or.inl rfl | exact Or.inr rfl) (pe_op o_cat pe_int (pe_c (c_law_turn (K := K) L) hr (by decide) (L2N.takes_of rfl rfl rfl rfl) (pa_cons (pv 0) (pa_cons pe_int (pa_cons (pv 1) (pa_cons pe_int pa_nil)))))))
    (pss_cons (ps_set (i := 3) sc_law_deep.nd rfl (by first | exact Or.inl rfl | exact Or.inr rfl) (pe_op o_sub (pv 2) pe_int))
    (pss_cons (ps_if (pt_cmpR op_eq (pe_op o_mod (pe_callTy o_int1 (by rfl) L.f_int (by decide +kernel) (pa_cons (pv 2) pa_nil)) pe_int) pe_int (nomark _)) (pss_one (ps_set (i := 3) sc_law_deep.nd rfl (by first | exact Or.inl rfl | exact Or.inr rfl) (pe_op o_sub (pv 2) pe_int))) pss_nil)
    (pss_cons (ps_set (i := 4) sc_law_deep.nd rfl (by first | exact Or.inl rfl | exact Or.inr rfl) (pe_mk (c_PolyD_initD (K := K) L) hr (by decide) (L2N.takes_of rfl rfl rfl rfl) (pa_cons (pe_lst (pa_cons (pv 2) (pa_cons (pe_op o_sub pe_int (pe_op o_rep pe_int (pv 2))) (pa_cons (pv 2) pa_nil)))) (pa_cons (pe_op o_cat pe_int (pe_c (c_law_take (K := K) L) hr (by decide) (L2N.takes_of rfl rfl rfl rfl) (pa_cons (pv 0) (pa_cons pe_int (pa_cons pe_int pa_nil))))) pa_nil))))
    (pss_cons (ps_if (pt_not (pt_val (pe_c (c_law_is (K := K) L) hr (by decide) (L2N.takes_of rfl rfl rfl rfl) (pa_cons (pe_c (c_least_power (K := K) L) hr (by decide) (L2N.takes_of rfl rfl rfl rfl) (pa_cons (pv 4) (pa_cons (pv 3) pa_nil))) (pa_cons (pv 3) pa_nil))))) (pss_one (ps_ret pe_bl)) pss_nil)
    (pss_cons (ps_if (pt_not (pt_val (pe_c (c_law_is (K := K) L) hr (by decide) (L2N.takes_of rfl rfl rfl rfl) (pa_cons (pe_c (c_least_power (K := K) L) hr (by decide) (L2N.takes_of rfl rfl rfl rfl) (pa_cons (pv 4) (pa_cons pe_int pa_nil))) (pa_cons (pv 3) pa_nil))))) (pss_one (ps_ret pe_bl)) pss_nil)
    (pss_one (ps_ret (pe_c (c_law_is (K := K) L) hr (by decide) (L2N.takes_of rfl rfl rfl rfl) (pa_cons (pe_c (c_least_power (K := K) L) hr (by decide) (L2N.takes_of rfl rfl rfl rfl) (pa_cons (pv 4) (pa_cons (pe_op o_sub (pv 3) pe_int) pa_nil))) (pa_cons pe_non pa_nil))))))))))))), ?_⟩
  obtain ⟨p, rfl, hP, k⟩ := h
  walk_at "zz"
  rename_i r Hr r0 r1 hPr hBr
  refine z_d2 (fun c => ?_) (fun c => ?_)
  · walk_at "zz"
    rename_i t Ht t0 t1 hPt hBt
    refine z_mod (by omega) ?_
    walk_at "zz"
    refine z_d2 (fun ce => ?_) (fun ce => ?_)
    · walk_at "zz"
      rename_i q Hq hq sq eq o Ho o0 o1 hPo hBo
      have neq : q ≠ p := IsPool.ne (by walk_at "up") hq
      have eq2 : Hq q = some (.lst (([3 + t, 4 - 2 * (3 + t), 3 + t] : List Int).map V.int)) := eq
      have dl := S31.deep_least (f := S31.cf [3 + t, 4 - 2 * (3 + t), 3 + t]) (m := 3 + t) (by omega) rfl rfl rfl (fun k hk => S31.cf_out hk)
      simp only [ce, if_true] at dl
      refine u_mkP (ns := [3 + t, 4 - 2 * (3 + t), 3 + t]) (by walk_at "up") (by simp) (by omega) (by omega) (fun x Hx ls sx hx lw => ?_)
      walk_at "zz"
      refine u_lp hx lw (by simp) (by omega) (by omega) (fun r1 H1 s1 l1 => ?_)
      walk_at "zz"
      refine u_isI (by omega) ((lp_at (by omega) dl l1).1 (by omega)) ?_
      walk_at "zz"
      refine u_lp (hx.mono s1) lw (by simp) (by omega) (by omega) (fun r2 H2 s2 l2 => ?_)
      walk_at "zz"
      refine u_isI (by omega) ((lp_at (by omega) dl l2).1 (by omega)) ?_
      walk_at "zz"
      refine u_lp ((hx.mono s1).mono s2) lw (by simp) (by omega) (by omega) (fun r3 H3 s3 l3 => ?_)
      walk_at "zz"
      refine u_is (s := none) ((lp_at (by omega) dl l3).2 (by omega) (by omega)) ?_
      exact k _ (by walk_at "up") (by walk_at "bt")
    · walk_at "zz"
      rename_i q Hq hq sq eq o Ho o0 o1 hPo hBo
      have neq : q ≠ p := IsPool.ne (by walk_at "up") hq
      have eq2 : Hq q = some (.lst (([3 + t, 4 - 2 * (3 + t), 3 + t] : List Int).map V.int)) := eq
      have dl := S31.deep_least (f := S31.cf [3 + t, 4 - 2 * (3 + t), 3 + t]) (m := 3 + t) (by omega) rfl rfl rfl (fun k hk => S31.cf_out hk)
      simp only [ce, if_false] at dl
      refine u_mkP (ns := [3 + t, 4 - 2 * (3 + t), 3 + t]) (by walk_at "up") (by simp) (by omega) (by omega) (fun x Hx ls sx hx lw => ?_)
      walk_at "zz"
      refine u_lp hx lw (by simp) (by omega) (by omega) (fun r1 H1 s1 l1 => ?_)
      walk_at "zz"
      refine u_isI (by omega) ((lp_at (by omega) dl l1).1 (by omega)) ?_
      walk_at "zz"
      refine u_lp (hx.mono s1) lw (by simp) (by omega) (by omega) (fun r2 H2 s2 l2 => ?_)
      walk_at "zz"
      refine u_isI (by omega) ((lp_at (by omega) dl l2).1 (by omega)) ?_
      walk_at "zz"
      refine u_lp ((hx.mono s1).mono s2) lw (by simp) (by omega) (by omega) (fun r3 H3 s3 l3 => ?_)
      walk_at "zz"
      refine u_is (s := none) ((lp_at (by omega) dl l3).2 (by omega) (by omega)) ?_
      exact k _ (by walk_at "up") (by walk_at "bt")
  · walk_at "zz"
    rename_i t Ht t0 t1 hPt hBt
    refine z_mod (by omega) ?_
    walk_at "zz"
    refine z_d2 (fun ce => ?_) (fun ce => ?_)
    · walk_at "zz"
      rename_i q Hq hq sq eq o Ho o0 o1 hPo hBo
      have neq : q ≠ p := IsPool.ne (by walk_at "up") hq
      have eq2 : Hq q = some (.lst (([3 + t, 4 - 2 * (3 + t), 3 + t] : List Int).map V.int)) := eq
      have dl := S31.deep_least (f := S31.cf [3 + t, 4 - 2 * (3 + t), 3 + t]) (m := 3 + t) (by omega) rfl rfl rfl (fun k hk => S31.cf_out hk)
      simp only [ce, if_true] at dl
      refine u_mkP (ns := [3 + t, 4 - 2 * (3 + t), 3 + t]) (by walk_at "up") (by simp) (by omega) (by omega) (fun x Hx ls sx hx lw => ?_)
      walk_at "zz"
      refine u_lp hx lw (by simp) (by omega) (by omega) (fun r1 H1 s1 l1 => ?_)
      walk_at "zz"
      refine u_isI (by omega) ((lp_at (by omega) dl l1).1 (by omega)) ?_
      walk_at "zz"
      refine u_lp (hx.mono s1) lw (by simp) (by omega) (by omega) (fun r2 H2 s2 l2 => ?_)
      walk_at "zz"
      refine u_isI (by omega) ((lp_at (by omega) dl l2).1 (by omega)) ?_
      walk_at "zz"
      refine u_lp ((hx.mono s1).mono s2) lw (by simp) (by omega) (by omega) (fun r3 H3 s3 l3 => ?_)
      walk_at "zz"
      refine u_is (s := none) ((lp_at (by omega) dl l3).2 (by omega) (by omega)) ?_
      exact k _ (by walk_at "up") (by walk_at "bt")
    · walk_at "zz"
      rename_i q Hq hq sq eq o Ho o0 o1 hPo hBo
      have neq : q ≠ p := IsPool.ne (by walk_at "up") hq
      have eq2 : Hq q = some (.lst (([3 + t, 4 - 2 * (3 + t), 3 + t] : List Int).map V.int)) := eq
      have dl := S31.deep_least (f := S31.cf [3 + t, 4 - 2 * (3 + t), 3 + t]) (m := 3 + t) (by omega) rfl rfl rfl (fun k hk => S31.cf_out hk)
      simp only [ce, if_false] at dl
      refine u_mkP (ns := [3 + t, 4 - 2 * (3 + t), 3 + t]) (by walk_at "up") (by simp) (by omega) (by omega) (fun x Hx ls sx hx lw => ?_)
      walk_at "zz"
      refine u_lp hx lw (by simp) (by omega) (by omega) (fun r1 H1 s1 l1 => ?_)
      walk_at "zz"
      refine u_isI (by omega) ((lp_at (by omega) dl l1).1 (by omega)) ?_
      walk_at "zz"
      refine u_lp (hx.mono s1) lw (by simp) (by omega) (by omega) (fun r2 H2 s2 l2 => ?_)
      walk_at "zz"
      refine u_isI (by omega) ((lp_at (by omega) dl l2).1 (by omega)) ?_
      walk_at "zz"
      refine u_lp ((hx.mono s1).mono s2) lw (by simp) (by omega) (by omega) (fun r3 H3 s3 l3 => ?_)
      walk_at "zz"
      refine u_is (s := none) ((lp_at (by omega) dl l3).2 (by omega) (by omega)) ?_
      exact k _ (by walk_at "up") (by walk_at "bt")
theorem c_law_deep (L : Lw K mg) : Cal P w K mg base 6 "_law_deep" (sp1 (fs_deep K)) [] := by
  obtain ⟨fd, F⟩ := L.d_law_deep
  exact ⟨⟨_, fd, ["pool"], [], ok_law_deep L F, L.g_law_deep, F.kp, F.bindsN (fun _ _ _ _ _ _ us hl => match us, hl with | [_], _ => rfl), .nil⟩⟩
end
end T

set_option maxHeartbeats 4000000
namespace T
open PySem PySem.Spec PyProof.Rows L2 Z
/-! the readings' steps, as one word: walk_at "z" (one step), "zz" (as far as it goes), "up" (a fact carried here) -/
local macro_rules | `(tactic| walk_at "up") => `(tactic| first
  | assumption
  | (refine' IsR.mono (by assumption) ?zup; case zup => walk_at "up")
  | (refine' IsE.mono (by assumption) ?zup; case zup => walk_at "up")
  | (refine' Same.at (by assumption) ?zup; case zup => walk_at "up")
  | (refine' SqL.of ?zup; case zup => walk_at "up")
  | (refine' L2.Same.seq (by assumption) ?zup; case zup => walk_at "up"))
local macro_rules | `(tactic| walk_at "z") => `(tactic| first
  | ((with_reducible refine' z_var ?zvh ?_); (case zvh => exact rfl))
  | with_reducible refine z_c ?_
  | with_reducible refine z_cons ?_
  | with_reducible refine z_nil ?_
  | with_reducible refine z_op ?_
  | with_reducible refine z_nx ?_
  | with_reducible refine z_seq ?_
  | with_reducible refine z_asg ?_
  | with_reducible refine z_asgG ?_
  | with_reducible refine z_call ?_
  | with_reducible refine z_sq0 ?_
  | with_reducible refine z_sq1 ?_
  | with_reducible refine z_ifS ?_
  | with_reducible refine z_test ?_
  | with_reducible refine z_tb ?_
  | with_reducible refine z_bl ?_
  | with_reducible refine z_blI ?_
  | with_reducible refine z_ret ?_
  | with_reducible refine z_rt ?_
  | with_reducible refine z_T ?_
  | with_reducible refine z_F ?_
  | with_reducible refine z_add ?_
  | with_reducible refine z_sub ?_
  | with_reducible refine z_neg ?_
  | with_reducible refine z_un ?_
  | with_reducible refine z_eqI ?_
  | with_reducible refine z_neI ?_
  | with_reducible refine z_lt ?_
  | with_reducible refine z_le ?_
  | with_reducible refine z_gt ?_
  | with_reducible refine z_ge ?_
  | with_reducible refine z_not ?_
  | with_reducible refine z_and ?_
  | with_reducible refine z_or ?_
  | with_reducible refine z_andV ?_
  | with_reducible refine z_orV ?_
  | with_reducible refine z_notV ?_
  | with_reducible refine z_if ?_
  | with_reducible refine z_cb ?_
  | with_reducible refine z_int1 ?_
  | with_reducible refine z_intb ?_
  | with_reducible refine z_abs ?_
  | with_reducible refine z_gcd ?_
  | with_reducible refine z_isi_ii ?_
  | with_reducible refine z_isi_ib ?_
  | with_reducible refine z_next ?_
  | with_reducible refine z_drop ?_
  | with_reducible refine z_par ?_
  | with_reducible refine z_par2 ?_
  | with_reducible refine z_tupN ?_
  | with_reducible refine z_lstN ?_
  | ((with_reducible refine' z_nt ?zl1 ?_); (case zl1 => exact Nat.le_of_ble_eq_true rfl); intro p H' hp hs he)
  | ((with_reducible refine' z_gtup ?zl1 ?zl2 ?_); (case zl1 => walk_at "up"); (case zl2 => exact rfl))
  | with_reducible refine z_bk ?_
  | with_reducible refine z_ct ?_
  | with_reducible refine z_break ?_
  | with_reducible refine z_cont ?_
  | with_reducible refine z_retN ?_
  | with_reducible refine z_nn ?_
  | with_reducible refine z_mk ?_
  | with_reducible refine z_gn ?_
  | with_reducible refine z_gcons ?_
  | with_reducible refine z_gnil ?_
  | with_reducible refine z_mt ?_
  | with_reducible refine z_mko ?_
  | with_reducible refine z_for2 ?_
  | with_reducible refine z_ownI ?_
  | ((with_reducible refine' z_lenL ?zl1 ?_); (case zl1 => walk_at "up"))
  | ((with_reducible refine' z_ixT ?zl1 ?zl2 ?_); (case zl1 => walk_at "up"); (case zl2 => exact rfl))
  | ((with_reducible refine' z_mulL ?zl1 ?zl2 ?_); (case zl1 => omega); (case zl2 => omega))
  | ((with_reducible refine' z_mulR ?zl1 ?zl2 ?_); (case zl1 => omega); (case zl2 => omega))
  | ((with_reducible refine' z_divS ?zl1 ?zl2 ?_); (case zl1 => omega); (case zl2 => omega))
  | ((with_reducible refine' z_mulW ?zl1 ?zl2 ?zl3 ?zl4 ?_); (case zl1 => omega); (case zl2 => omega); (case zl3 => omega); (case zl4 => omega))
  | ((with_reducible refine' z_divW ?zl1 ?zl2 ?_); (case zl1 => omega); (case zl2 => omega)))
local macro_rules | `(tactic| walk_at "zz") => `(tactic| repeat (walk_at "z"))
local macro_rules | `(tactic| walk_at "z") => `(tactic| with_reducible refine z_lstN ?_)
local macro_rules | `(tactic| walk_at "z") => `(tactic| with_reducible refine z_p6 ?_)
local macro_rules | `(tactic| walk_at "z") => `(tactic| with_reducible refine z_p12 ?_)
local macro_rules | `(tactic| walk_at "z") => `(tactic| with_reducible refine z_p13 ?_)
local macro_rules | `(tactic| walk_at "z") => `(tactic| with_reducible refine z_calln ?_)
local macro_rules | `(tactic| walk_at "z") => `(tactic| with_reducible refine z_xfS ?_)
local macro_rules | `(tactic| walk_at "z") => `(tactic| with_reducible refine z_lcS ?_)
local macro_rules | `(tactic| walk_at "z") => `(tactic| with_reducible refine z_lcRS ?_)
local macro_rules | `(tactic| walk_at "z") => `(tactic| with_reducible refine z_lcZS ?_)
local macro_rules | `(tactic| walk_at "z") => `(tactic| with_reducible refine z_foS ?_)
local macro_rules | `(tactic| walk_at "z") => `(tactic| with_reducible refine z_for1 ?_)
local macro_rules | `(tactic| walk_at "z") => `(tactic| with_reducible refine z_tsl ?_)
local macro_rules | `(tactic| walk_at "z") => `(tactic| with_reducible refine z_np ?_)
local macro_rules | `(tactic| walk_at "z") => `(tactic| with_reducible refine z_pt ?_)
local macro_rules | `(tactic| walk_at "z") => `(tactic| with_reducible refine z_pti ?_)
local macro_rules | `(tactic| walk_at "z") => `(tactic| with_reducible refine z_catI ?_)
local macro_rules | `(tactic| walk_at "z") => `(tactic| with_reducible refine z_isNI ?_)
local macro_rules | `(tactic| walk_at "z") => `(tactic| with_reducible refine z_isNN ?_)
local macro_rules | `(tactic| walk_at "z") => `(tactic| with_reducible refine z_notNI ?_)
local macro_rules | `(tactic| walk_at "z") => `(tactic| with_reducible refine z_notNN ?_)
local macro_rules | `(tactic| walk_at "z") => `(tactic| with_reducible refine z_gsub ?_)
local macro_rules | `(tactic| walk_at "z") => `(tactic| with_reducible refine z_isNb ?_)
local macro_rules | `(tactic| walk_at "z") => `(tactic| with_reducible refine z_notNb ?_)
local macro_rules | `(tactic| walk_at "z") => `(tactic| ((with_reducible refine' z_nlR ?zl1 ?_); (case zl1 => exact Nat.le_of_ble_eq_true rfl); intro p H' hp hs he))
local macro_rules | `(tactic| walk_at "z") => `(tactic| ((with_reducible refine' z_repR ?zl1 ?zl2 ?_); (case zl1 => omega); (case zl2 => omega)))
local macro_rules | `(tactic| walk_at "z") => `(tactic| ((with_reducible refine' z_repL ?zl1 ?zl2 ?_); (case zl1 => omega); (case zl2 => omega)))
local macro_rules | `(tactic| walk_at "z") => `(tactic| ((with_reducible refine' z_lenLst ?zl1 ?_); (case zl1 => walk_at "up")))
local macro_rules | `(tactic| walk_at "z") => `(tactic| ((with_reducible refine' z_cat ?zl1 ?zl2 ?zl3 ?_); (case zl1 => walk_at "up"); (case zl2 => walk_at "up"); (case zl3 => (simp only [List.length_map, List.length_cons, List.length_nil, List.length_append, List.length_replicate]; omega)); intro p H' hp hs he))
local macro_rules | `(tactic| walk_at "z") => `(tactic| with_reducible refine z_sfl ?_)
theorem sameH {H H1 H2 : Hp} (h : Same H1 H2) (e : Same H H1) : Same H H2 := e.trans h
local macro_rules | `(tactic| walk_at "sm") => `(tactic| first
  | assumption
  | exact fun _ _ h => h
  | (refine' sameH (by assumption) ?zsm; case zsm => walk_at "sm"))
local macro_rules | `(tactic| walk_at "up") => `(tactic| first
  | assumption
  | (refine' IsPool.mono (by assumption) ?zup; case zup => walk_at "up")
  | (refine' IsP.mono (by assumption) ?zup; case zup => walk_at "up")
  | (refine' Same.at (by assumption) ?zup; case zup => walk_at "up")
  | (refine' But.at (by assumption) ?zne ?zup; (case zne => (first | assumption | exact Ne.symm (by assumption))); (case zup => walk_at "up"))
  | (refine' IsPool.of ?zup; case zup => walk_at "up"))
local macro_rules | `(tactic| walk_at "bt") => `(tactic| first
  | assumption
  | exact fun _ _ _ h => h
  | (refine' But.trans ?zsm (by assumption); case zsm => walk_at "bt")
  | (refine' But.trans ?zsm (But.of (by assumption)); case zsm => walk_at "bt"))
local macro_rules | `(tactic| walk_at "up") => `(tactic| first
  | assumption
  | (with_reducible refine' IsPool.mono (by assumption) ?zup; case zup => walk_at "up")
  | (with_reducible refine' IsP.mono (by assumption) ?zup; case zup => walk_at "up")
  | (with_reducible refine' IsP.but (by assumption) ?zp ?zup; (case zp => walk_at "up"); (case zup => walk_at "up"))
  | (with_reducible refine' Same.at (by assumption) ?zup; case zup => walk_at "up")
  | (with_reducible refine' But.at (by assumption) ?zne ?zup; (case zne => (first | assumption | exact Ne.symm (by assumption))); (case zup => walk_at "up"))
  | fail)
local macro_rules | `(tactic| walk_at "z") => `(tactic| ((with_reducible refine' u_take ?zl1 ?zl2 ?zl3 ?zl4 ?_); (case zl1 => walk_at "up"); (case zl2 => omega); (case zl3 => omega); (case zl4 => omega); intro r H' r0 r1 hP hB))
local macro_rules | `(tactic| walk_at "z") => `(tactic| ((with_reducible refine' u_turn ?zl1 ?zl2 ?zl3 ?zl4 ?_); (case zl1 => walk_at "up"); (case zl2 => omega); (case zl3 => omega); (case zl4 => omega); intro r H' r0 r1 hP hB))
local macro_rules | `(tactic| walk_at "z") => `(tactic| with_reducible refine z_isi_ni ?_)
local macro_rules | `(tactic| walk_at "z") => `(tactic| ((with_reducible refine' z_listL ?zl1 ?_); (case zl1 => (refine' SqL.of ?zup; case zup => walk_at "up")); intro p H' hp hs he))
local macro_rules | `(tactic| walk_at "z") => `(tactic| ((with_reducible refine' u_mkP ?zl1 ?zl2 ?zl3 ?zl4 ?_); (case zl1 => walk_at "up"); (case zl2 => (first | omega | (simp only [List.length_cons, List.length_nil]; omega))); (case zl3 => omega); (case zl4 => omega); intro x H' ls hs hP hL))
section
variable {P : Program} {w : World} {K : Frag} {mg : Str → Option Value} {base : Heap}
theorem ok_law (L : Lw K mg) {fd : FuncData} (F : FunD K "law" "law" (defArgs s_law) (defBody s_law) (defScope s_law) (df_law.dvs K) (df_law.kws K) (He.fAd K ("law", none)) fd) : FnOk P w K mg base (L2N.CX P w) 7 (He.fAd K ("law", none)) fd (["script"] : List Str) (sp1 (fs_law K)) := by
  refine FunD.ok F sc_law len1 (fun cdv A outer s H vs Q E hr h => ?_)
  obtain ⟨a, rfl, h⟩ := h
  refine ⟨_, (pss_cons (ps_set (i := 1) sc_law.nd rfl (by first | exact Or.inl rfl | exact Or.inr rfl) (pe_callTy (callK rList1 (K := K) rfl o_list1) (by rfl) L.f_list (by decide +kernel) (pa_cons (pe_slice (slK rSlL (K := K) rfl sl_list) (pv 0) po_none (po_some pe_int)) pa_nil)))
    (pss_cons (ps_asg (pe_c (c_law_world (K := K) L) hr (by decide) (L2N.takes_of rfl rfl rfl rfl) (pa_cons (pv 1) pa_nil)) (pg_tup (by rfl) (pgs_cons (pg_name (i := 2) sc_law.nd rfl (by first | exact Or.inl rfl | exact Or.inr rfl)) (pgs_cons (pg_name (i := 3) sc_law.nd rfl (by first | exact Or.inl rfl | exact Or.inr rfl)) pgs_nil))))
    (pss_cons (ps_set (i := 4) sc_law.nd rfl (by first | exact Or.inl rfl | exact Or.inr rfl) (pe_op o_cat pe_int (pe_c (c_law_take (K := K) L) hr (by decide) (L2N.takes_of rfl rfl rfl rfl) (pa_cons (pv 1) (pa_cons pe_int (pa_cons pe_int pa_nil))))))
    (pss_cons (ps_set (i := 5) sc_law.nd rfl (by first | exact Or.inl rfl | exact Or.inr rfl) (pe_c (c_law_turn (K := K) L) hr (by decide) (L2N.takes_of rfl rfl rfl rfl) (pa_cons (pv 1) (pa_cons pe_int (pa_cons pe_int (pa_cons pe_int pa_nil))))))
    (pss_cons (ps_if (pt_not (pt_val (pe_c (c_law_asked (K := K) L) hr (by decide) (L2N.takes_of rfl rfl rfl rfl) (pa_cons (pv 3) (pa_cons (pv 4) (pa_cons (pv 5) pa_nil)))))) (pss_one (ps_ret pe_bl)) pss_nil)
    (pss_cons (ps_set (i := 6) sc_law.nd rfl (by first | exact Or.inl rfl | exact Or.inr rfl) (pe_c (c_law_times (K := K) L) hr (by decide) (L2N.takes_of rfl rfl rfl rfl) (pa_cons (pv 3) (pa_cons (pe_lst (pa_cons pe_int (pa_cons pe_int pa_nil))) pa_nil))))
    (pss_cons (ps_if (pt_not (pt_val (pe_c (c_law_asked (K := K) L) hr (by decide) (L2N.takes_of rfl rfl rfl rfl) (pa_cons (pv 6) (pa_cons (pv 4) (pa_cons (pe_c (c_law_take (K := K) L) hr (by decide) (L2N.takes_of rfl rfl rfl rfl) (pa_cons (pv 1) (pa_cons pe_int (pa_cons pe_int pa_nil)))) pa_nil)))))) (pss_one (ps_ret pe_bl)) pss_nil)
    (pss_cons (ps_set (i := 7) sc_law.nd rfl (by first | exact Or.inl rfl | exact Or.inr rfl) (pe_mk (c_PolyD_initD (K := K) L) hr (by decide) (L2N.takes_of rfl rfl rfl rfl) (pa_cons (pe_callTy (callK rList1 (K := K) rfl o_list1) (by rfl) L.f_list (by decide +kernel) (pa_cons (pv 3) pa_nil)) (pa_cons (pv 4) pa_nil))))
    (pss_cons (ps_if (pt_not (pt_val (pe_c (c_law_deep (K := K) L) hr (by decide) (L2N.takes_of rfl rfl rfl rfl) (pa_cons (pv 1) pa_nil)))) (pss_one (ps_ret pe_bl)) pss_nil)
    (pss_cons (ps_if (pt_not (pt_val (pe_c (c_law_is (K := K) L) hr (by decide) (L2N.takes_of rfl rfl rfl rfl) (pa_cons (pe_c (c_least_power (K := K) L) hr (by decide) (L2N.takes_of rfl rfl rfl rfl) (pa_cons (pv 7) (pa_cons pe_int pa_nil))) (pa_cons (pe_c (c_law_least (K := K) L) hr (by decide) (L2N.takes_of rfl rfl rfl rfl) (pa_cons (pv 3) (pa_cons pe_int pa_nil))) pa_nil))))) (pss_one (ps_ret pe_bl)) pss_nil)
    (pss_cons (ps_if (pt_cmpR op_eq (pe_c (c_law_take (K := K) L) hr (by decide) (L2N.takes_of rfl rfl rfl rfl) (pa_cons (pv 1) (pa_cons pe_int (pa_cons pe_int pa_nil)))) pe_int (nomark _)) (pss_one (ps_if (PW.pt (pw_or (pt_cmpR op_eq (pv 2) pe_int (nomark _)) (pw_or1 (pt_cmpR op_eq (pv 2) pe_int (nomark _))))) (pss_one (ps_if (pt_cmpR o_notN (pe_c (c_least_power (K := K) L) hr (by decide) (L2N.takes_of rfl rfl rfl rfl) (pa_cons (pv 7) (pa_cons pe_int pa_nil))) pe_non (nomark _)) (pss_one (ps_ret pe_bl)) pss_nil)) (pss_one (ps_if (pt_cmpR o_notN (pe_c (c_law_least (K := K) L) hr (by decide) (L2N.takes_of rfl rfl rfl rfl) (pa_cons (pv 3) (pa_cons pe_int pa_nil))) pe_non (nomark _)) (pss_one (ps_if (pt_not (pt_val (pe_c (c_law_is (K := K) L) hr (by decide) (L2N.takes_of rfl rfl rfl rfl) (pa_cons (pe_c (c_least_power (K := K) L) hr (by decide) (L2N.takes_of rfl rfl rfl rfl) (pa_cons (pv 7) (pa_cons pe_int pa_nil))) (pa_cons (pe_c (c_law_least (K := K) L) hr (by decide) (L2N.takes_of rfl rfl rfl rfl) (pa_cons (pv 3) (pa_cons pe_int pa_nil))) pa_nil))))) (pss_one (ps_ret pe_bl)) pss_nil)) pss_nil)))) pss_nil)
    (pss_one (ps_ret (pe_c (c_law_bounds (K := K) L) hr (by decide) (L2N.takes_of rfl rfl rfl rfl) (pa_cons (pv 7) pa_nil))))))))))))))), ?_⟩
  obtain ⟨ap, ss, rfl, hS, hl, k⟩ := h
  walk_at "zz"
  refine z_slL hS (fun sc hsc s0 es => ?_)
  generalize upd H sc (.lst (cutV (ss.map V.int) none (some 63))) = H0 at *
  rw [cut63 hl] at es
  walk_at "zz"
  refine z_listL es (fun p Hl hpl sl el => ?_)
  have hPl : IsPool Hl p := ⟨_, el⟩
  walk_at "zz"
  refine ⟨_, rfl, p, rfl, hPl, fun t q H1 ns md ne hP1 hB1 et eq hn bad => ?_⟩
  walk_at "zz"
  rename_i o Ho o0 o1 hPo hBo m Hm m0 m1 hPm hBm
  refine ⟨_, _, _, rfl, q, ns, _, _, rfl, rfl, rfl, by walk_at "up", by omega, by omega, by omega, by omega, by omega, fun H2 s2 => ?_⟩
  walk_at "zz"
  rename_i l1 Hl1 hl1 sl1 el1
  refine u_times (qs := [1, 1]) (by walk_at "up") el1 (by omega) (by simp) (by
    intro v hv
    simp only [List.mem_cons, List.not_mem_nil, or_false] at hv
    omega) (fun r Hr rs hr sr er pr => ?_)
  have ner : r ≠ p := IsPool.ne (by walk_at "up") hr
  have lrs : rs.length ≤ 101 := by
    have := pr.1
    simp only [List.length_cons, List.length_nil] at this
    omega
  walk_at "zz"
  refine ⟨_, _, _, rfl, r, rs, _, _, rfl, rfl, rfl, by walk_at "up", by omega, by omega, by omega, by omega, by omega, fun H3 s3 => ?_⟩
  walk_at "zz"
  rename_i lc Hlc hlc slc elc poly Hp ls sp hpoly lw
  refine ⟨_, rfl, p, rfl, by walk_at "up", fun H4 hP4 hB4 => ?_⟩
  walk_at "zz"
  refine u_lp (by walk_at "up") lw (by omega) (by decide) (by decide) (fun r5 H5 s5 l5 => ?_)
  walk_at "zz"
  refine u_least (by walk_at "up") (by omega) (by decide) (by decide) (fun r6 H6 s6 l6 => ?_)
  walk_at "zz"
  refine u_is (S31.lp_one l5 l6) ?_
  walk_at "zz"
  rename_i tt Ht tt0 tt1 hPt hBt
  refine z_d2 (fun c => ?_) (fun c => ?_)
  · walk_at "zz"
    refine z_d2 (fun c1 => ?_) (fun c1 => ?_)
    · walk_at "zz"
      refine u_lp (by walk_at "up") lw (by omega) (by decide) (by decide) (fun r1 H1 s1 l1 => ?_)
      have rn := (bad (.inl c1)).lp l1
      subst rn
      rw [show oV none = V.non from rfl]
      walk_at "zz"
      exact ⟨_, rfl, poly, ls, rfl, by walk_at "up", by have := lw.1; omega, fun H' s => k _⟩
    · walk_at "zz"
      refine z_d2 (fun c2 => ?_) (fun c2 => ?_)
      · walk_at "zz"
        refine u_lp (by walk_at "up") lw (by omega) (by decide) (by decide) (fun r1 H1 s1 l1 => ?_)
        have rn := (bad (.inr c2)).lp l1
        subst rn
        rw [show oV none = V.non from rfl]
        walk_at "zz"
        exact ⟨_, rfl, poly, ls, rfl, by walk_at "up", by have := lw.1; omega, fun H' s => k _⟩
      · walk_at "zz"
        refine u_least (by walk_at "up") (by omega) (by decide) (by decide) (fun r7 H7 s7 l7 => ?_)
        cases r7 with
        | none =>
          rw [show oV none = V.non from rfl]
          walk_at "zz"
          exact ⟨_, rfl, poly, ls, rfl, by walk_at "up", by have := lw.1; omega, fun H' s => k _⟩
        | some n =>
          rw [show oV (some n) = V.int n from rfl]
          walk_at "zz"
          refine u_lp (by walk_at "up") lw (by omega) (by decide) (by decide) (fun r8 H8 s8 l8 => ?_)
          walk_at "zz"
          refine u_least (by walk_at "up") (by omega) (by decide) (by decide) (fun r9 H9 s9 l9 => ?_)
          walk_at "zz"
          have e1 := S31.lp_one l8 (S31.lp_more l7 (show (60 : Int).toNat ≤ (300 : Int).toNat by decide))
          have e2 := S31.lp_one l9 l7
          refine u_is (e1.trans e2.symm) ?_
          walk_at "zz"
          exact ⟨_, rfl, poly, ls, rfl, by walk_at "up", by have := lw.1; omega, fun H' s => k _⟩
  · walk_at "zz"
    exact ⟨_, rfl, poly, ls, rfl, by walk_at "up", by have := lw.1; omega, fun H' s => k _⟩
theorem c_law (L : Lw K mg) : Cal P w K mg base 7 "law" (sp1 (fs_law K)) [] := by
  obtain ⟨fd, F⟩ := L.d_law
  exact ⟨⟨_, fd, ["script"], [], ok_law L F, L.g_law, F.kp, F.bindsN (fun _ _ _ _ _ _ us hl => match us, hl with | [_], _ => rfl), .nil⟩⟩
end
end T

set_option maxHeartbeats 0
namespace T
open PySem PySem.Spec PyProof.Rows L2 Z
abbrev R : PySem.W.OpenRow := PySem.W.OpenLaw.row PySem.Challenge.rw_belownought_k31_least_power
abbrev hk : PySem.W.Hook := hookZ 6 fb fn
def ob (st : PySem.W.SharedT) : SeenZ := seenG 6 fb fn (HandSHeadRun.getT st)
theorem ob_eq (st : PySem.W.SharedT) : ob st = hk.obs st.abs := seenG_eq (HandSHeadRun.getT_eq st)
def loose : List Str := (["_wall", "__name__", "NoughtError", "ZeroBottom", "BadText", "OutOfBounds", "BadSize", "check_number", "check_size", "Ratio", "read_whole", "read_fraction", "joined_terms", "split_terms", "split_body", "written_power", "read_power", "written_poly", "read_poly", "Poly", "lowest_terms", "poly_sum", "whole_value", "least_power", "_law_take", "_law_turn", "_law_times", "_law_factors", "_law_world", "_law_least"] : List Str) ++ (["_law_is", "_law_asked", "_law_fell", "_law_deep", "_law_bounds"] : List Str)
theorem run (w : World) : HandSHeadRun.RunEqI R (PySem.W.view R.prog [0, 41]) hk ob 12000 loose w := by
  unfold HandSHeadRun.RunEqI
  kernel_rfl
end T
open PySem PySem.W PySem.Calls PyProof.Rows
theorem PySem.Challenge.cw_belownought_k31_least_power_holds : PySem.Challenge.rw_belownought_k31_least_power.Holds := by
  w_on; o_law
  refine HandSHeadRun.head_imp (r := T.R) (q := view T.R.prog [0, 41]) (H := T.hk) (ob := T.ob) (M := 12000) (loose := T.loose) (d := HandSHeadRun.topDef T.R.prog 41) (kwd := []) T.ob_eq T.run
    (by kernel_rfl) (by kernel_rfl) (by kernel_rfl) (by rfl) (by first | assumption | decide +kernel) (by decide +kernel) ⟨rfl, rfl, rfl, rfl, rfl, by decide +kernel⟩ ?hw ?hc
  case hw => w_witness2
  case hc =>
    refine L2.walk_ofE (l := PySem.Challenge.rw_belownought_k31_least_power) (n := 63) (k := 9) (x := "script") (CX := L2.CX0) rfl (by decide) (by kernel_rfl) ⟨rfl, by decide, by decide⟩ ?F (fun _ _ _ _ z => z)
    case F =>
      intro w mg fa h Y G hmg0
      obtain ⟨K, KX, c⟩ := Y
      have hmg : mg ("law" : PySem.Str) = some (.ref fa) := by
        have e : (HandSHeadRun.topDef T.R.prog 41).name = ("law" : PySem.Str) := by kernel_rfl
        rw [← e]
        exact hmg0
      have L : T.Lw K mg := ⟨⟨h, KX, G⟩, c⟩
      obtain ⟨fd, F⟩ := L.d_law
      have e := hmg.symm.trans L.g_law
      cases e
      refine ⟨K, fd, Z.sp1 (Z.fs_law K), KX, fun s v => F.bindsA (ps := ["script"]) (fun _ _ _ _ _ _ us hl => match us, hl with | [_], _ => rfl) s [v] rfl, fun H a ns hl _ hS => ⟨_, rfl, a, ns, rfl, hS, hl, fun _ => rfl⟩, fun base _ _ => ?_⟩
      exact Z.law_quiet (T.ok_law L F) (by decide)

