import PyProof.Rows.All
import Wide.All
import OpenK.AllK
import Wide.FinOn
import HandS.ForMost
import HandS.Exc
import HandS.ExcOwn
import HandS.WordsExc
import HandS.CallSlots
import HandS.TryOnly
import HandS.TryMany
import HandS.Gcd
import HandS.ExcInit
import HandS.IsInst
import HandS.Defaults
import HandS.MakeKw
import HandS.Wide
import HandS.HotCalls
import HandS.ExcIs
import HandS.ExcField
import HandS.Flow
import HandS.Style
import HandS.Head0
import HandS.Head1
import HandS.Head2
import HandS.Head3
import HandS.HeadEnd
import HandS.HeadHook1
import HandS.HeadHook2
import KE.KExcIs
import HandS.Walk
import KE.KMathGC
import KE.GoesEnum
import HandS.HeadNt
import HandS.WideBits
import PySem.Challenge.RW_belownought_k30_halved_corner_numbers
set_option Elab.async false
set_option linter.all false
set_option maxRecDepth 100000
set_option maxHeartbeats 4000000
/-! my own layer over the hand layer: calls by name, own operators, readings step by step -/
namespace Z
open PySem PySem.Spec PyProof.Rows L2

/-! ### callables -/
section
variable (P : Program) (w : World) (K : PySem.W.Frag) (mg : Str → Option Value) (base : Heap)
/-- a def of the module under its name, the defaults dvs filling up -/
structure Cal (k : Nat) (x : Str) (sp : Sp) (dvs : List V) : Prop where
  ex : ∃ (f : Addr) (fd : FuncData) (ps : List Str) (ds : List Value), FnOk P w K mg base (L2N.CX P w) k f fd ps sp ∧ mg x = some (.ref f) ∧ PySem.W.keepIn K (.ref f) = true ∧ Binds K fd ps ds ∧ Vals dvs ds
/-- .. called with keywords ks behind n values -/
structure CalK (k : Nat) (x : Str) (sp : Sp) (n : Nat) (ks : List Str) (gV : List V → List V → List V) : Prop where
  ex : ∃ (f : Addr) (fd : FuncData) (ps : List Str) (g : List Value → List Value → List Value), FnOk P w K mg base (L2N.CX P w) k f fd ps sp ∧ mg x = some (.ref f) ∧ PySem.W.keepIn K (.ref f) = true ∧ KBn K fd ps n ks g gV
/-- .. within an except suite -/
structure CalH (k : Nat) (x : Str) (sp : Sp) : Prop where
  ex : ∃ (f : Addr) (fd : FuncData) (ps : List Str), L2H.FnH P w K mg base (L2N.CX P w) k f fd ps sp ∧ mg x = some (.ref f) ∧ PySem.W.keepIn K (.ref f) = true ∧ Binds K fd ps []
/-- a method -/
structure Met (k : Nat) (C : Addr) (m : Str) (sp : Sp) (dvs : List V) : Prop where
  ex : ∃ (f : Addr) (fd : FuncData) (ps : List Str) (ds : List Value), Cls K C ∧ Meth K C m f ∧ FnOk P w K mg base (L2N.CX P w) k f fd ps sp ∧ Binds K fd ps ds ∧ Vals dvs ds
/-- a class made by its name -/
structure Mak (k : Nat) (x : Str) (C : Addr) (sp : Sp) (dvs : List V) : Prop where
  ex : ∃ (f : Addr) (fd : FuncData) (ps : List Str) (ds : List Value), Mk K C f ∧ FnOk P w K mg base (L2N.CX P w) k f fd ps sp ∧ mg x = some (.ref C) ∧ Binds K fd ps ds ∧ Vals dvs ds
structure MakK (k : Nat) (x : Str) (C : Addr) (sp : Sp) (n : Nat) (ks : List Str) (gV : List V → List V → List V) : Prop where
  ex : ∃ (f : Addr) (fd : FuncData) (ps : List Str) (g : List Value → List Value → List Value), Mk K C f ∧ FnOk P w K mg base (L2N.CX P w) k f fd ps sp ∧ mg x = some (.ref C) ∧ KBn K fd ps (n + 1) ks g gV
/-- an exception class made by its name, its own __init__ keeping sp -/
structure MakX (k : Nat) (x : Str) (C : Addr) (sp : Sp) : Prop where
  ex : ∃ (f : Addr) (fd : FuncData) (ps : List Str), OexC K C ∧ PySem.W.findIn K (.ref C) "__init__" = some (some (.ref f)) ∧ PySem.W.typeIn K (.ref f) = some (.type "function") ∧ FnOk P w K mg base (L2N.CX P w) k f fd ps sp ∧ mg x = some (.ref C) ∧ Binds K fd ps []
end

/-- what a call lets out, wished for by W -/
def tCallW (sp : Sp) (dvs : List V) (W : WX) (t : TA) : TE := fun σ H Q => t σ H fun vs H1 => sp (vs ++ dvs) H1 Q (fun cls d H' => W cls d σ H')
def tCallKW (n m : Nat) (sp : Sp) (gV : List V → List V → List V) (E : XK) (t tk : TA) : TE := fun σ H Q => t σ H fun vs H1 => tk σ H1 fun zs H2 => vs.length = n ∧ zs.length = m ∧ sp (gV vs zs) H2 Q E
def tMethW (C : Addr) (m : Str) (sp : Sp) (dvs : List V) (W : WX) (ta : TE) (t : TA) : TE := fun σ H Q => ta σ H fun x H1 => ∃ a dx fs, x = .ref a ∧ H1 a = some (.ins C dx fs) ∧ fs.lookup m = none ∧
  t σ H1 fun vs H2 => sp (x :: (vs ++ dvs)) H2 Q (fun cls d H' => W cls d σ H')
def tMakeW (C : Addr) (sp : Sp) (dvs : List V) (W : WX) (t : TA) : TE := fun σ H Q => t σ H fun vs H1 => ∀ x dx, H1 x = none → H1 dx = none → dx ≠ x →
  sp (.ref x :: (vs ++ dvs)) (upd (upd H1 dx (.own x)) x (.ins C dx [])) (fun v H2 => v = .non ∧ Q (.ref x) H2) (fun cls d H' => W cls d σ H')

section
variable {X : Cx} {k j : Nat} {f C : Addr} {fd : FuncData} {ps : List Str} {sp : Sp} {dvs : List V} {ds : List Value} {W : WX} {x m : Str} {p pos apos : Pos} {e o : Expr} {es : List Expr} {ta : TE} {t : TA}
theorem passW (tk : L2N.Takes X W) (σ : L2.St) : PassesAt (L2N.CX X.prog X.w) X σ (fun cls d H => W cls d σ H) := L2N.passAt tk σ
theorem pe_c (c : Cal X.prog X.w X.K X.mg X.base k x sp dvs) (hr : Room j X.A) (hk : k ≤ j) (tk : L2N.Takes X W) (ha : PA X (e :: es) t) (hg : Gl X x := by rfl)
    (hdb : (x == ("__debug__" : Str)) = false := by decide) (he : starEach (e :: es) X.env = (false, eval e X.env) :: starEach es X.env := by rfl) (hpl : (backTo pos (starEach es X.env)).any (·.1) = false := by rfl) :
    PE X (.Call (.Name x p) (e :: es) [] pos) (tCallW sp dvs W t) := by
  obtain ⟨f, fd, ps, ds, F, hm, kp, b, d⟩ := c.ex
  exact pe_callSD (E := fun σ cls d H => W cls d σ H) F (hr.mono hk) hg hm kp b d (passW tk) ha hdb he hpl
theorem pe_c0 (c : Cal X.prog X.w X.K X.mg X.base k x sp dvs) (hr : Room j X.A) (hk : k ≤ j) (tk : L2N.Takes X W) (hg : Gl X x := by rfl)
    (hdb : (x == ("__debug__" : Str)) = false := by decide) :
    PE X (.Call (.Name x p) [] [] pos) (tCallW sp dvs W tNil) := by
  obtain ⟨f, fd, ps, ds, F, hm, kp, b, d⟩ := c.ex
  refine ⟨fun pins s σ H Q I h => ?_⟩
  refine wpAny_Call_Name_kw (ld_glob I hg hm ?_ hdb)
  exact PySem.W.callWith_K0 I.kIn kp (run_fnSD (us := []) (E := fun σ cls d H => W cls d σ H) F (hr.mono hk) b d (passW tk σ) I .nil h)
/-- called with keywords; what leaves it is wished for by E, whatever the slots are -/
theorem pe_ck {n : Nat} {ks : List Str} {gV : List V → List V → List V} {E : XK} {kws : List Keyword} {tw : TA} (c : CalK X.prog X.w X.K X.mg X.base k x sp n ks gV) (hr : Room j X.A) (hk : k ≤ j) (hx : Passes (L2N.CX X.prog X.w) X E) (ha : PA X (e :: es) t) (hkw : PK X kws tw) (hg : Gl X x := by rfl)
    (hall : (backToKw pos (keywordEach kws X.env)).all (·.1.isSome) = true := by rfl) (hks : (backToKw pos (keywordEach kws X.env)).filterMap (·.1) = ks := by rfl)
    (hdb : (x == ("__debug__" : Str)) = false := by decide) (he : starEach (e :: es) X.env = (false, eval e X.env) :: starEach es X.env := by rfl)
    (hpl : ((backTo pos (starEach (e :: es) X.env)).any (·.1) || (backToKw pos (keywordEach kws X.env)).any (·.1.isNone)) = false := by rfl) :
    PE X (.Call (.Name x p) (e :: es) kws pos) (tCallN n ks.length sp gV E t tw) := by
  obtain ⟨f, fd, ps, g, F, hm, kp, b⟩ := c.ex
  exact pe_callN F (hr.mono hk) hg hm kp b hx ha hkw hall hks hdb he hpl
/-- .. keywords alone -/
theorem pe_ck0 {ks : List Str} {gV : List V → List V → List V} {E : XK} {kw : Keyword} {kws : List Keyword} {tw : TA} (c : CalK X.prog X.w X.K X.mg X.base k x sp 0 ks gV) (hr : Room j X.A) (hk : k ≤ j) (hx : Passes (L2N.CX X.prog X.w) X E) (hkw : PK X (kw :: kws) tw) (hg : Gl X x := by rfl)
    (hall : (backToKw pos (keywordEach (kw :: kws) X.env)).all (·.1.isSome) = true := by rfl) (hks : (backToKw pos (keywordEach (kw :: kws) X.env)).filterMap (·.1) = ks := by rfl)
    (hdb : (x == ("__debug__" : Str)) = false := by decide)
    (hpl : ((backTo pos (starEach [] X.env)).any (·.1) || (backToKw pos (keywordEach (kw :: kws) X.env)).any (·.1.isNone)) = false := by rfl) :
    PE X (.Call (.Name x p) [] (kw :: kws) pos) (tCallN 0 ks.length sp gV E tNil tw) := by
  obtain ⟨f, fd, ps, g, F, hm, kp, b⟩ := c.ex
  refine ⟨fun pi s0 sl H0 Q0 J0 h0 => ?_⟩
  have J := J0
  refine wpAny_Call_Name_kw (ld_glob J hg hm ?_ hdb)
  refine PySem.W.callWith_KW0 (h₀ := X.base) J.ok.mod.kin kp hall ?_ hpl
  refine thn (hkw.run pos pi s0 sl H0 _ J h0) fun ws s2 ⟨zs, H2, J2, rz, _, l2, q2⟩ => ⟨J2.kIn, ?_⟩
  rw [hks]
  exact run_fnN (vs := []) F (hr.mono hk) b hx J2 .nil rz rfl l2 q2
/-- making an instance, the wish at the slots -/
theorem run_mkS {pi : List (Addr × Obj)} {sl : L2.St} {H0 : Hp} {s0 : Shared} {Q0 : VK} {us : List Value} {xs : List V} {E0 : XK} (M : Mk X.K C f) (F : FnOk X.prog X.w X.K X.mg X.base (L2N.CX X.prog X.w) k f fd ps sp) (hr : Room (k + 1) X.A) (hb : Binds X.K fd ps ds) (hd : Vals dvs ds)
    (hx : PassesAt (L2N.CX X.prog X.w) X sl E0) (J : Inv X pi sl H0 s0) (r : Vals xs us)
    (h : ∀ y dy, H0 y = none → H0 dy = none → dy ≠ y → sp (.ref y :: (xs ++ dvs)) (upd (upd H0 dy (.own y)) y (.ins C dy [])) (fun v H2 => v = .non ∧ Q0 (.ref y) H2) E0) :
    wpAny (model X.prog X.w) X.A (call (.ref C) us) (EP X pi sl Q0) X.xe s0 := by
  have g1 := J.hok.fresh (Nat.le_succ s0.heap.objs.size)
  have g2 := J.hok.fresh (Nat.le_refl s0.heap.objs.size)
  have asked := h _ _ g1 g2 (Nat.ne_of_lt (Nat.lt_succ_self _))
  have J2 := Inv.made (C := C) J
  have rs : Vals (V.ref (s0.heap.objs.size + 1) :: (xs ++ dvs)) (Value.ref (s0.heap.objs.size + 1) :: (us ++ ds)) := .cons rfl (r.append hd)
  have sz : (Value.ref (s0.heap.objs.size + 1) :: us ++ ds).length = ps.length := rs.length.symm.trans (F.len _ _ _ _ asked)
  have bd := hb _ (Value.ref (s0.heap.objs.size + 1) :: us) J2.kIn sz
  have run := F.run (X.A.under (.builtin "type.__call__" ⟨.ref C :: us, []⟩)) X.stack _ _ ⟨Value.ref (s0.heap.objs.size + 1) :: us, []⟩ _ _ _ _ (hr.make C us []) (J2.env0.make C us []) bd rs asked
  refine wpAny_call (make_map (f := f) J.kIn M.makes M.init (beq_iff_eq.mp M.fn) (codeAny_mono run fun fin s1 hq => ?_))
  match fin, hq with
  | .error er, hq => exact hx pi _ _ er s1 J2 hq
  | .ok (.ret u), hq =>
    obtain ⟨v, H3, J3, rv, ev, q3⟩ := J2.after hq
    subst ev
    exact ⟨rv, ⟨V.ref (s0.heap.objs.size + 1), H3, J3, rfl, q3⟩⟩
theorem pe_mk (c : Mak X.prog X.w X.K X.mg X.base k x C sp dvs) (hr : Room j X.A) (hk : k + 1 ≤ j) (tk : L2N.Takes X W) (ha : PA X (e :: es) t) (hg : Gl X x := by rfl)
    (hdb : (x == ("__debug__" : Str)) = false := by decide) (he : starEach (e :: es) X.env = (false, eval e X.env) :: starEach es X.env := by rfl) (hpl : (backTo pos (starEach es X.env)).any (·.1) = false := by rfl) :
    PE X (.Call (.Name x p) (e :: es) [] pos) (tMakeW C sp dvs W t) := by
  obtain ⟨f, fd, ps, ds, M, F, hm, b, d⟩ := c.ex
  refine ⟨fun pi s0 sl H0 Q0 J h0 => ?_⟩
  refine wpAny_Call_Name_kw (ld_glob J hg hm ?_ hdb)
  refine PySem.W.callWith_K (h₀ := X.base) J.ok.mod.kin M.kp (thn (ha.run pos pi s0 sl H0 _ J h0) fun us s1 ⟨xs, H1, J1, r, q⟩ => ⟨J1.kIn, ?_⟩) he hpl
  exact run_mkS M F (hr.mono hk) b d (passW tk sl) J1 r q
theorem pe_mk0 (c : Mak X.prog X.w X.K X.mg X.base k x C sp dvs) (hr : Room j X.A) (hk : k + 1 ≤ j) (tk : L2N.Takes X W) (hg : Gl X x := by rfl)
    (hdb : (x == ("__debug__" : Str)) = false := by decide) :
    PE X (.Call (.Name x p) [] [] pos) (tMakeW C sp dvs W tNil) := by
  obtain ⟨f, fd, ps, ds, M, F, hm, b, d⟩ := c.ex
  refine ⟨fun pi s0 sl H0 Q0 J h0 => ?_⟩
  refine wpAny_Call_Name_kw (ld_glob J hg hm ?_ hdb)
  exact PySem.W.callWith_K0 J.kIn M.kp (run_mkS (us := []) M F (hr.mono hk) b d (passW tk sl) J .nil h0)
theorem pe_mkk {n : Nat} {ks : List Str} {gV : List V → List V → List V} {E : XK} {kws : List Keyword} {tw : TA} (c : MakK X.prog X.w X.K X.mg X.base k x C sp n ks gV) (hr : Room j X.A) (hk : k + 1 ≤ j) (hx : Passes (L2N.CX X.prog X.w) X E) (ha : PA X (e :: es) t) (hkw : PK X kws tw) (hg : Gl X x := by rfl)
    (hall : (backToKw pos (keywordEach kws X.env)).all (·.1.isSome) = true := by rfl) (hks : (backToKw pos (keywordEach kws X.env)).filterMap (·.1) = ks := by rfl)
    (hdb : (x == ("__debug__" : Str)) = false := by decide) (he : starEach (e :: es) X.env = (false, eval e X.env) :: starEach es X.env := by rfl)
    (hpl : ((backTo pos (starEach (e :: es) X.env)).any (·.1) || (backToKw pos (keywordEach kws X.env)).any (·.1.isNone)) = false := by rfl) :
    PE X (.Call (.Name x p) (e :: es) kws pos) (tMakeN C n ks.length sp gV E t tw) := by
  obtain ⟨f, fd, ps, g, M, F, hm, b⟩ := c.ex
  exact pe_makeN M F (hr.mono hk) hg hm b hx ha hkw hall hks hdb he hpl
theorem pe_mkk0 {ks : List Str} {gV : List V → List V → List V} {E : XK} {kw : Keyword} {kws : List Keyword} {tw : TA} (c : MakK X.prog X.w X.K X.mg X.base k x C sp 0 ks gV) (hr : Room j X.A) (hk : k + 1 ≤ j) (hx : Passes (L2N.CX X.prog X.w) X E) (hkw : PK X (kw :: kws) tw) (hg : Gl X x := by rfl)
    (hall : (backToKw pos (keywordEach (kw :: kws) X.env)).all (·.1.isSome) = true := by rfl) (hks : (backToKw pos (keywordEach (kw :: kws) X.env)).filterMap (·.1) = ks := by rfl)
    (hdb : (x == ("__debug__" : Str)) = false := by decide)
    (hpl : ((backTo pos (starEach [] X.env)).any (·.1) || (backToKw pos (keywordEach (kw :: kws) X.env)).any (·.1.isNone)) = false := by rfl) :
    PE X (.Call (.Name x p) [] (kw :: kws) pos) (tMakeN C 0 ks.length sp gV E tNil tw) := by
  obtain ⟨f, fd, ps, g, M, F, hm, b⟩ := c.ex
  refine ⟨fun pi s0 sl H0 Q0 J h0 => ?_⟩
  refine wpAny_Call_Name_kw (ld_glob J hg hm ?_ hdb)
  refine PySem.W.callWith_KW0 (h₀ := X.base) J.ok.mod.kin M.kp hall ?_ hpl
  refine thn (hkw.run pos pi s0 sl H0 _ J h0) fun ws s2 ⟨zs, H2, J2, rz, l1, l2, q2⟩ => ⟨J2.kIn, ?_⟩
  rw [hks]
  exact run_makeN (vs := []) M F (hr.mono hk) b hx J2 .nil rz rfl l2 q2
/-- o.m(..) of an own class -/
theorem pe_mt {pl : Sem Bool} (c : Met X.prog X.w X.K X.mg X.base k C m sp dvs) (hr : Room j X.A) (hk : k ≤ j) (tk : L2N.Takes X W) (ho : PE X o ta) (ha : PA X (e :: es) t)
    (hst : starEach (e :: es) X.env = (false, eval e X.env) :: starEach es X.env := by rfl) (hpl : (backTo pos (starEach es X.env)).any (·.1) = false := by rfl)
    (ht : eval (.Call (.Attribute o m apos) (e :: es) [] pos) X.env = (do
      let ov ← eval o X.env; standAt apos.atName
      let (f, first) ← holding [ov] (getMethod ov m pl); callWith pos f first (backTo pos (starEach (e :: es) X.env)) (backToKw pos (keywordEach [] X.env))) := by rfl) :
    PE X (.Call (.Attribute o m apos) (e :: es) [] pos) (tMethW C m sp dvs W ta t) := by
  obtain ⟨f, fd, ps, ds, hc, hm, F, b, d⟩ := c.ex
  refine ⟨fun pi s0 sl H0 Q0 J h0 => ?_⟩
  refine PySem.W.methodCall_KW (pl := pl) (thn (ho.run pi s0 sl H0 _ J h0) fun u s1 ⟨y, H1, J1, ry, a, dy, fs, ey, ea, l, q⟩ => ?_) ht
  subst ey
  obtain rfl : u = Value.ref a := ry
  refine getmeth_ok J1 ea hc hm l ?_
  refine PySem.W.callWith_K (first := [.ref a]) (h₀ := X.base) J.ok.mod.kin hm.kp (thn (ha.run pos pi s1 sl H1 _ J1 q) fun us s2 ⟨xs, H2, J2, r, q2⟩ => ⟨J2.kIn, ?_⟩) hst hpl
  exact run_fnSD (us := .ref a :: us) (vs := .ref a :: xs) (E := fun σ cls d H => W cls d σ H) F (hr.mono hk) b d (passW tk sl) J2 (.cons rfl r) q2
theorem pe_mt0 {pl : Sem Bool} (c : Met X.prog X.w X.K X.mg X.base k C m sp dvs) (hr : Room j X.A) (hk : k ≤ j) (tk : L2N.Takes X W) (ho : PE X o ta)
    (ht : eval (.Call (.Attribute o m apos) [] [] pos) X.env = (do
      let ov ← eval o X.env; standAt apos.atName
      let (f, first) ← holding [ov] (getMethod ov m pl); callWith pos f first (backTo pos (starEach [] X.env)) (backToKw pos (keywordEach [] X.env))) := by rfl) :
    PE X (.Call (.Attribute o m apos) [] [] pos) (tMethW C m sp dvs W ta tNil) := by
  obtain ⟨f, fd, ps, ds, hc, hm, F, b, d⟩ := c.ex
  refine ⟨fun pi s0 sl H0 Q0 J h0 => ?_⟩
  refine PySem.W.methodCall_KW (pl := pl) (thn (ho.run pi s0 sl H0 _ J h0) fun u s1 ⟨y, H1, J1, ry, a, dy, fs, ey, ea, l, q⟩ => ?_) ht
  subst ey
  obtain rfl : u = Value.ref a := ry
  refine getmeth_ok J1 ea hc hm l ?_
  exact PySem.W.callWith_K0 (first := [.ref a]) J1.kIn hm.kp (run_fnSD (us := [.ref a]) (vs := [.ref a]) (E := fun σ cls d H => W cls d σ H) F (hr.mono hk) b d (passW tk sl) J1 (.cons rfl .nil) q)
end
end Z

set_option maxHeartbeats 4000000
/-! own exceptions made, own operators, unions of rules, the readings' steps -/
namespace Z
open PySem PySem.Spec PyProof.Rows L2

section
variable {X : Cx} {k j : Nat} {C : Addr} {sp : Sp} {W : WX} {x : Str} {p pos : Pos} {e : Expr} {es : List Expr} {t : TA}
/-- X(), X an own exception class without an __init__ of the text -/
theorem pmk_x0 {bmB : List Value} {B newId initId : String} (F : ExcBaseFacts B newId initId bmB) (q : PySem.W.excIn X.K C bmB newId = true) (gC : X.mg x = some (.ref C)) (kC : PySem.W.keepIn X.K (.ref C) = true) (r : Raises X (.ref C)) (hg : Gl X x := by rfl)
    (hdb : (x == ("__debug__" : Str)) = false := by decide) : L2N.PMk X (.Call (.Name x p) [] [] pos) (fun _ H Q => Q (.ref C) none H) := by
  intro pi s0 sl H0 Q0 J h0
  refine wpAny_Call_Name_kw (ld_glob J hg gC ?_ hdb)
  refine PySem.W.callWith_K0 J.kIn kC ?_
  show wpAny _ _ (call (.ref C) []) _ _ _
  obtain ⟨bm, N, nm, qn, bs, hdct, sn, sub, ab, col, dd, k0, k1, k2, k3, k5, mN, hC, hN, hni, T⟩ := exc_obj J.kIn q
  refine wpAny_call_exc_subT F T hC hN hni (fun h1 e1 hm => ?_) (Nat.zero_le _)
  exact L2N.mk_of J hm r h0 (J.hok.gone hm.new)
/-- C(..), C's own __init__ keeping sp: what is left is an exception without a context -/
theorem run_exc {fI : Addr} {fd : FuncData} {ps : List Str} {pi : List (Addr × Obj)} {sl : L2.St} {H1 : Hp} {s1 : Shared} {Q0 : XK} {us : List Value} {xs : List V} (T : OexC X.K C) (iC : PySem.W.findIn X.K (.ref C) "__init__" = some (some (.ref fI)))
    (tI : PySem.W.typeIn X.K (.ref fI) = some (.type "function")) (F1 : FnOk X.prog X.w X.K X.mg X.base (L2N.CX X.prog X.w) k fI fd ps sp) (hr : Room (k + 1) X.A) (hb : Binds X.K fd ps []) (hx : Passes (L2N.CX X.prog X.w) X (fun _ _ _ => False)) (J1 : Inv X pi sl H1 s1) (r1 : Vals xs us) (hz : xs.length ≤ 1000)
    (q1 : ∀ a, H1 a = none → sp (.ref a :: (xs ++ [])) (upd H1 a (exo a C none)) (fun v H2 => v = .non ∧ ∃ (d : Addr) (fs : List (Str × V)), H2 a = some (exo a C (some d)) ∧ H2 d = some (exd d fs) ∧ H1 d = none ∧ Q0 (.ref C) (some d) (upd (del H2 a) d (.xd fs))) (fun _ _ _ => False)) :
    wpAny (model X.prog X.w) X.A (call (.ref C) us) (L2N.MkP X pi sl Q0) X.xe s1 := by
  obtain ⟨nm, q, N, bs, bm, sn, sub, ab, col, dd, k0, k1, k2, k3, k5, hC, hbm⟩ := T.cls
  obtain ⟨hp, g, dr, tk, os⟩ := s1
  have sz0 := Nat.le_succ hp.objs.size
  have nw : H1 (hp.objs.size + 1) = none := J1.hok.fresh sz0
  have asked := q1 _ nw
  have old : ∀ b o, hp.get? b = some o → ((hp.push (PySem.W.kdv_tup us)).push (PySem.HandSPX.excO C hp.objs.size)).get? b = some o := fun b o e1 => Heap.get?_push_of_some _ (Heap.get?_push_of_some _ e1)
  have at_new : ((hp.push (PySem.W.kdv_tup us)).push (PySem.HandSPX.excO C hp.objs.size)).get? (hp.objs.size + 1) = some (PySem.HandSPX.excO C hp.objs.size) := by heap_get
  have J2 := J1.laid (t' := tk) (a := hp.objs.size + 1) (o := exo (hp.objs.size + 1) C none) old sz0 (exo_ok at_new)
  have r2 : Vals (V.ref (hp.objs.size + 1) :: (xs ++ [])) (Value.ref (hp.objs.size + 1) :: (us ++ [])) := .cons rfl (r1.append .nil)
  have szl : (Value.ref (hp.objs.size + 1) :: us ++ []).length = ps.length := r2.length.symm.trans (F1.len _ _ _ _ asked)
  have szu : us.length ≤ sizeLine := by rw [← Paired.length r1, sizeLine_eq]; omega
  have bd := hb _ (Value.ref (hp.objs.size + 1) :: us) J2.kIn szl
  have run := F1.run (X.A.under (.builtin "type.__call__" ⟨.ref C :: us, []⟩)) X.stack _ _ ⟨Value.ref (hp.objs.size + 1) :: us, []⟩ _ _ _ (fun _ _ _ => False) (hr.make C us []) (J2.env0.make C us []) bd r2 asked
  have looks := PySem.W.looks_findIn (M := model X.prog X.w) J1.kIn iC
  refine wpAny_call (PySem.HandSPX.call_own PySem.F.excBase_ValueError (fun Y => PySem.HandSPX.refsVE_contains Y bm hbm) (J1.kIn _ _ hC) looks (fun self => PySem.W.bind_fn J1.kIn self tI) szu (codeAny_mono run fun fin s3 hq => ?_))
  match fin, hq with
  | .error er, hq => exact hx pi sl _ _ er s3 J2 hq
  | .ok (.ret u), hq =>
    obtain ⟨v, H2, os2, bare2, un2, hok2, rv, ev, d, fs, ea, ed, hd1, q2⟩ := hq
    subst ev
    obtain ⟨h2, g2, d2, t2, os'⟩ := s3
    obtain ⟨t0, G, J3, kG, ge, hoe, na⟩ := mk_end0 (d2 := d2) (t2 := t2) J1 sz0 old un2 hok2 os2 bare2 ea ed hd1
    exact ⟨rv, _, _, _, ⟨G, g2, d2, t2, os'⟩, _, .ref C, some d, rfl, J3, kG, ge, hoe, ⟨rfl, rfl, fun vs ev => by cases ev; rfl⟩, rfl, rfl, na, rfl, bare2, raises_own T.exC T.tyC, q2⟩
theorem pmk_x (c : MakX X.prog X.w X.K X.mg X.base k x C sp) (hr : Room j X.A) (hk : k + 1 ≤ j) (hx : Passes (L2N.CX X.prog X.w) X (fun _ _ _ => False)) (ha : PA X (e :: es) t) (hg : Gl X x := by rfl)
    (hdb : (x == ("__debug__" : Str)) = false := by decide) (he : starEach (e :: es) X.env = (false, eval e X.env) :: starEach es X.env := by rfl) (hpl : (backTo pos (starEach es X.env)).any (·.1) = false := by rfl) :
    L2N.PMk X (.Call (.Name x p) (e :: es) [] pos) (tMkO C sp [] t) := by
  obtain ⟨f, fd, ps, T, iC, tI, F, hm, b⟩ := c.ex
  intro pi s0 sl H0 Q0 J h0
  refine wpAny_Call_Name_kw (ld_glob J hg hm ?_ hdb)
  refine PySem.W.callWith_K (h₀ := X.base) J.ok.mod.kin T.kC (thn (ha.run pos pi s0 sl H0 _ J h0) fun us s1 ⟨xs, H1, J1, r1, hz, q1⟩ => ⟨J1.kIn, ?_⟩) he hpl
  exact run_exc T iC tI F (hr.mono hk) b hx J1 r1 hz q1
theorem passF : Passes (L2N.CX X.prog X.w) X (fun _ _ _ => False) := fun _ _ _ _ _ _ _ h => by
  obtain ⟨_, _, _, _, _, _, _, _, _, _, _, _, z⟩ := h
  exact z.elim
/-- what leaves a def's own frame -/
theorem passE {E : XK} (tk : L2N.Takes X (fun cls d _ H => E cls d H)) : Passes (L2N.CX X.prog X.w) X E := L2N.passes_call tk fun _ _ _ _ h => h

/-! ### operators of own classes -/
def rOwn1 (C : Addr) (sp : Sp) (E : XK) : V → Hp → VK → Prop := fun x H Q => ∃ a dx fs, x = .ref a ∧ H a = some (.ins C dx fs) ∧ sp [.ref a] H Q E
def rOwn2 (C : Addr) (sp : Sp) (E : XK) : R2 := fun x y H Q => ∃ a b dx dy fs gs, x = .ref a ∧ y = .ref b ∧ H a = some (.ins C dx fs) ∧ H b = some (.ins C dy gs) ∧ sp [.ref a, .ref b] H (fun v H' => (∃ q, v = .ref q) ∧ Q v H') E
theorem un_own (c : Met X.prog X.w X.K X.mg X.base k C "__neg__" sp []) (hr : Room j X.A) (hk : k ≤ j) {E : XK} (hx : Passes (L2N.CX X.prog X.w) X E) : UnR X (unaryOp .USub) (rOwn1 C sp E) := by
  intro pi s0 sl H0 y v Q0 J ry h0
  obtain ⟨a, dy, fs, rfl, ea, q⟩ := h0
  obtain rfl : v = Value.ref a := ry
  obtain ⟨f, fd, ps, ds, hc, hm, F, b, d⟩ := c.ex
  obtain ⟨mA, O, _⟩ := ins_get J.hok ea
  obtain ⟨od, I0, _⟩ := O.look
  obtain ⟨m0, fr⟩ := J.fr
  refine PySem.W.ksp_neg fr J.ok.mod.kin I0 hm.at_ hm.fn ?_
  exact run_fn (us := [.ref a]) (vs := [.ref a]) F (hr.mono hk) b d hx J (.cons rfl .nil) q
theorem ref_cls {pi : List (Addr × Obj)} {s0 : Shared} {sl : L2.St} {H0 : Hp} {b dy : Addr} {gs : List (Str × V)} (J : Inv X pi sl H0 s0) (eb : H0 b = some (.ins C dy gs)) {M : Model} : PySem.W.Looks M s0.heap (typeOf (.ref b)) (.ref C) := by
  obtain ⟨mA, O, _⟩ := ins_get J.hok eb
  obtain ⟨od, I0, _⟩ := O.look
  exact I0.type
theorem op_own {op : Operator} {m : Str} (hop : PySem.dunder op.info.2 = m) (hs : PySem.W.selfFirst X.K C = true) (c : Met X.prog X.w X.K X.mg X.base k C m sp []) (hr : Room j X.A) (hk : k ≤ j) {E : XK} (hx : Passes (L2N.CX X.prog X.w) X E) : OpR X (binaryOp op) (rOwn2 C sp E) := by
  intro pi s0 sl H0 y z v u Q0 J ry rz h0
  obtain ⟨a, b, dy, dz, fs, gs, rfl, rfl, ea, eb, q⟩ := h0
  obtain rfl : v = Value.ref a := ry
  obtain rfl : u = Value.ref b := rz
  obtain ⟨f, fd, ps, ds, hc, hm, F, bd, d⟩ := c.ex
  obtain ⟨mA, O, _⟩ := ins_get J.hok ea
  obtain ⟨od, I0, _⟩ := O.look
  obtain ⟨m0, fr⟩ := J.fr
  refine PySem.W.binop_K fr J.ok.mod.kin I0 (ref_cls J eb) hs (by rw [hop]; exact hm.at_) hm.fn ?_
  cases d
  refine wpAny_mono (run_fn (us := [.ref a, .ref b]) (vs := [.ref a, .ref b]) F (hr.mono hk) bd .nil hx J (.cons rfl (.cons rfl .nil)) q) (fun r s1 hq => ?_) fun _ _ z => z
  obtain ⟨v1, H1, J1, rv, ⟨q1, e1⟩, q2⟩ := hq
  subst e1
  obtain rfl : r = Value.ref q1 := rv
  exact ⟨.ref q1, H1, J1, rfl, q2⟩

/-! ### unions -/
def rOr (r r' : R2) : R2 := fun x y H Q => r x y H Q ∨ r' x y H Q
def rOr1 (r r' : V → Hp → VK → Prop) : V → Hp → VK → Prop := fun x H Q => r x H Q ∨ r' x H Q
theorem op_or2 {f : Value → Value → Sem Value} {r r' : R2} (h : OpR X f r) (h' : OpR X f r') : OpR X f (rOr r r') := by
  intro pi s0 sl H0 y z v u Q0 J ry rz h0
  rcases h0 with h0 | h0
  · exact h _ _ _ _ _ _ _ _ _ J ry rz h0
  · exact h' _ _ _ _ _ _ _ _ _ J ry rz h0
theorem un_or2 {f : Value → Sem Value} {r r' : V → Hp → VK → Prop} (h : UnR X f r) (h' : UnR X f r') : UnR X f (rOr1 r r') := by
  intro pi s0 sl H0 y v Q0 J ry h0
  rcases h0 with h0 | h0
  · exact h _ _ _ _ _ _ _ J ry h0
  · exact h' _ _ _ _ _ _ _ J ry h0

/-! ### named operators -/
def zNeg : V → Hp → VK → Prop := fun x H Q => ∃ i, x = .int i ∧ Q (.int (-i)) H
def zAdd : R2 := fun x y H Q => ∃ i j, x = .int i ∧ y = .int j ∧ Q (.int (i + j)) H
def zSub : R2 := fun x y H Q => ∃ i j, x = .int i ∧ y = .int j ∧ Q (.int (i - j)) H
/-- a size of bits -/
def Bits (n : Nat) (i : Int) : Prop := i.natAbs < 2 ^ n
def zMul : R2 := fun x y H Q => ∃ i j, x = .int i ∧ y = .int j ∧ IntMulOk i j ∧ Q (.int (i * j)) H
def zDiv : R2 := fun x y H Q => ∃ i j, x = .int i ∧ y = .int j ∧ (j ≠ 0 ∧ j.natAbs.log2 < 9000) ∧ Q (.int (i.fdiv j)) H
def zMod : R2 := fun x y H Q => ∃ i j, x = .int i ∧ y = .int j ∧ 0 < j ∧ Q (.int (i % j)) H
def zPow : R2 := fun x y H Q => ∃ i j, x = .int i ∧ y = .int j ∧ CPow i j ∧ Q (.int (i ^ j.toNat)) H
def zLt : R2 := fun x y H Q => ∃ i j, x = .int i ∧ y = .int j ∧ Q (.bl (decide (i < j))) H
def zLe : R2 := fun x y H Q => ∃ i j, x = .int i ∧ y = .int j ∧ Q (.bl (decide (i ≤ j))) H
def zGt : R2 := fun x y H Q => ∃ i j, x = .int i ∧ y = .int j ∧ Q (.bl (decide (j < i))) H
def zGe : R2 := fun x y H Q => ∃ i j, x = .int i ∧ y = .int j ∧ Q (.bl (decide (j ≤ i))) H
def zIsN : R2 := fun x y H Q => y = .non ∧ Q (.bl (decide (x = .non))) H
def zNotN : R2 := fun x y H Q => y = .non ∧ Q (.bl (!decide (x = .non))) H
theorem o_neg : UnR X (unaryOp .USub) zNeg := un_neg
theorem o_add : OpR X (binaryOp .Add) zAdd := op_add
theorem o_sub : OpR X (binaryOp .Sub) zSub := op_sub
theorem o_mul : OpR X (binaryOp .Mult) zMul := opI fun _ _ _ _ _ _ _ hc q => mul_int q hc
theorem o_div : OpR X (binaryOp .FloorDiv) zDiv := opI (C := fun _ j => j ≠ 0 ∧ j.natAbs.log2 < 9000) fun _ _ _ _ _ _ _ hc q => floordiv_int hc.1 q (.inl (PyProof.noPylong_of_log2 hc.2))
theorem o_mod : OpR X (binaryOp .Mod) zMod := op_mod
theorem o_pow : OpR X (binaryOp .Pow) zPow := op_pow
theorem o_lt : OpR X (compareOp .Lt) zLt := op_lt
theorem o_le : OpR X (compareOp .LtE) zLe := op_le
theorem o_gt : OpR X (compareOp .Gt) zGt := op_gt
theorem o_ge : OpR X (compareOp .GtE) zGe := op_ge
theorem o_isN : OpR X (compareOp .Is) zIsN := op_isN
theorem o_notN : OpR X (compareOp .IsNot) zNotN := op_notN
end

/-! ### the readings' steps -/
section
variable {K : PySem.W.Frag} {σ : L2.St} {H : Hp} {Q : VK} {v : V} {ta tb te : TE} {r r' : R2}
theorem z_var {i : Nat} (h : σ[i]? = some (some v)) (q : Q v H) : tVar i σ H Q := ⟨v, h, q⟩
theorem z_c (q : Q v H) : tC v σ H Q := q
theorem z_op (q : ta σ H fun x H1 => tb σ H1 fun y H2 => r x y H2 Q) : tOp r ta tb σ H Q := q
theorem z_un {u : V → Hp → VK → Prop} (q : ta σ H fun x H1 => u x H1 Q) : tUn u ta σ H Q := q
theorem z_neg {i : Int} (q : Q (.int (-i)) H) : zNeg (.int i) H Q := ⟨i, rfl, q⟩
theorem z_add {i j : Int} (q : Q (.int (i + j)) H) : zAdd (.int i) (.int j) H Q := ⟨i, j, rfl, rfl, q⟩
theorem z_sub {i j : Int} (q : Q (.int (i - j)) H) : zSub (.int i) (.int j) H Q := ⟨i, j, rfl, rfl, q⟩
theorem z_mul {i j : Int} (c : IntMulOk i j) (q : Q (.int (i * j)) H) : zMul (.int i) (.int j) H Q := ⟨i, j, rfl, rfl, c, q⟩
theorem z_mulL {i j : Int} (h1 : -18446744073709551616 < i) (h2 : i < 18446744073709551616) (q : Q (.int (i * j)) H) : zMul (.int i) (.int j) H Q := z_mul (CMul.ok (.inl ⟨by simpa using h1, by simpa using h2⟩)) q
theorem z_mulR {i j : Int} (h1 : -18446744073709551616 < j) (h2 : j < 18446744073709551616) (q : Q (.int (i * j)) H) : zMul (.int i) (.int j) H Q := z_mul (CMul.ok (.inr ⟨by simpa using h1, by simpa using h2⟩)) q
theorem z_mulB {i j : Int} {a b : Nat} (ha : Bits a i) (hb : Bits b j) (h0 : 0 < a) (h1 : 0 < b) (h : a + b ≤ 1000000) (q : Q (.int (i * j)) H) : zMul (.int i) (.int j) H Q := z_mul (CMulW.ok (wide_mul ha hb h0 h1 h)) q
theorem z_divN {i j : Int} {b : Nat} (h : j ≠ 0) (hb : Bits b j) (h0 : 0 < b) (h9 : b ≤ 9000) (q : Q (.int (i.fdiv j)) H) : zDiv (.int i) (.int j) H Q := ⟨i, j, rfl, rfl, ⟨h, Nat.lt_of_lt_of_le (PySem.Flt.log2_lt_of h0 hb) h9⟩, q⟩
theorem z_div {i j : Int} {b : Nat} (h : 0 < j) (hb : Bits b j) (h0 : 0 < b) (h9 : b ≤ 9000) (q : Q (.int (i / j)) H) : zDiv (.int i) (.int j) H Q := z_divN (by omega) hb h0 h9 (by rw [Int.fdiv_eq_ediv_of_nonneg i (by omega)]; exact q)
theorem z_divS {i j : Int} (h : 0 < j) (h2 : j < 18446744073709551616) (q : Q (.int (i / j)) H) : zDiv (.int i) (.int j) H Q := z_div (b := 64) h (by unfold Bits; have e : (2 : Nat) ^ 64 = 18446744073709551616 := by decide
                                                                                                                                                      omega) (by decide) (by decide) q
theorem z_mod {i j : Int} (c : 0 < j) (q : Q (.int (i % j)) H) : zMod (.int i) (.int j) H Q := ⟨i, j, rfl, rfl, c, q⟩
theorem z_pow {i j : Int} (c : CPow i j) (q : Q (.int (i ^ j.toNat)) H) : zPow (.int i) (.int j) H Q := ⟨i, j, rfl, rfl, c, q⟩
theorem z_lt {i j : Int} (q : Q (.bl (decide (i < j))) H) : zLt (.int i) (.int j) H Q := ⟨i, j, rfl, rfl, q⟩
theorem z_le {i j : Int} (q : Q (.bl (decide (i ≤ j))) H) : zLe (.int i) (.int j) H Q := ⟨i, j, rfl, rfl, q⟩
theorem z_gt {i j : Int} (q : Q (.bl (decide (j < i))) H) : zGt (.int i) (.int j) H Q := ⟨i, j, rfl, rfl, q⟩
theorem z_ge {i j : Int} (q : Q (.bl (decide (j ≤ i))) H) : zGe (.int i) (.int j) H Q := ⟨i, j, rfl, rfl, q⟩
theorem z_isN {x : V} (q : Q (.bl (decide (x = .non))) H) : zIsN x .non H Q := ⟨rfl, q⟩
theorem z_notN {x : V} (q : Q (.bl (!decide (x = .non))) H) : zNotN x .non H Q := ⟨rfl, q⟩
theorem z_eqI {i j : Int} (q : Q (.bl (decide (i = j))) H) : rEq (.int i) (.int j) H Q := ⟨rfl, by
  have e : decide (V.int i = V.int j) = decide (i = j) := by rw [Bool.eq_iff_iff]; simp
  rw [e]; exact q⟩
theorem z_neI {i j : Int} (q : Q (.bl (!decide (i = j))) H) : rNe (.int i) (.int j) H Q := ⟨rfl, by
  have e : decide (V.int i = V.int j) = decide (i = j) := by rw [Bool.eq_iff_iff]; simp
  rw [e]; exact q⟩
theorem z_inl {x y : V} (q : r x y H Q) : rOr r r' x y H Q := .inl q
theorem z_inr {x y : V} (q : r' x y H Q) : rOr r r' x y H Q := .inr q
theorem z_nil {QA : List V → Hp → Prop} (q : QA [] H) : tNil σ H QA := q
theorem z_cons {tr : TA} {QA : List V → Hp → Prop} (q : ta σ H fun x H1 => tr σ H1 fun xs H2 => QA (x :: xs) H2) : tCons ta tr σ H QA := q
theorem z_call {sp : Sp} {dvs : List V} {W : WX} {t : TA} (q : t σ H fun vs H1 => sp (vs ++ dvs) H1 Q (fun cls d H' => W cls d σ H')) : tCallW sp dvs W t σ H Q := q
theorem z_cb {rc : List V → Hp → VK → Prop} {t : TA} (q : t σ H fun vs H1 => rc vs H1 Q) : tCB rc t σ H Q := q
theorem z_tup {t : TA} (q : t σ H fun xs H1 => xs.length ≤ sizeLine ∧ ∀ p, H1 p = none → Q (.ref p) (upd H1 p (.tup xs))) : tTup t σ H Q := q
theorem z_lst {t : TA} (q : t σ H fun xs H1 => xs.length ≤ sizeLine ∧ ∀ p, H1 p = none → Q (.ref p) (upd H1 p (.lst xs))) : tLst t σ H Q := q
theorem z_if {tt : TT} (q : tt σ H fun c H1 => if c = true then ta σ H1 Q else tb σ H1 Q) : tIf tt ta tb σ H Q := q
theorem z_andV (q : ta σ H fun x H1 => ∃ c, x = .bl c ∧ if c = true then tb σ H1 Q else Q (.bl false) H1) : tAndV ta tb σ H Q := q
theorem z_orV (q : ta σ H fun x H1 => ∃ c, x = .bl c ∧ if c = true then Q (.bl true) H1 else tb σ H1 Q) : tOrV ta tb σ H Q := q
theorem z_notV (q : ta σ H fun x H1 => ∃ c, x = .bl c ∧ Q (.bl (!c)) H1) : tNotV ta σ H Q := q
/- tests -/
variable {QB : Bool → Hp → Prop} {b : Bool} {tt tu : TT}
theorem z_test (q : te σ H fun x H1 => ∃ k, x = .bl k ∧ QB k H1) : tTest te σ H QB := q
theorem z_tb (q : te σ H fun x H1 => ∃ k, x = .bl k ∧ QB k H1) : tB te σ H QB := q
theorem z_bl (q : QB b H) : ∃ k, V.bl b = .bl k ∧ QB k H := ⟨b, rfl, q⟩
theorem z_blI {P : Bool → Prop} (q : P b) : ∃ k, V.bl b = .bl k ∧ P k := ⟨b, rfl, q⟩
theorem z_and (q : tt σ H fun c H1 => if c = true then tu σ H1 QB else QB false H1) : tAnd tt tu σ H QB := q
theorem z_or (q : tt σ H fun c H1 => if c = true then QB true H1 else tu σ H1 QB) : tOr tt tu σ H QB := q
theorem z_not (q : tt σ H fun c H1 => QB (!c) H1) : tNot tt σ H QB := q
/- statements -/
variable {D : Ends} {t u : TS}
theorem z_seq (q : t { D with nx := u D } σ H) : tSeq t u D σ H := q
theorem z_next (q : D.nx σ H) : tNext D σ H := q
theorem z_asg {i : Nat} (q : te σ H fun x H1 => D.nx (σ.set i (some x)) H1) : tAsg te (gName i) D σ H := q
theorem z_ret (q : te σ H D.rt) : tRet te D σ H := q
theorem z_retN (q : D.rt .non H) : tRetN D σ H := q
theorem z_drop (q : te σ H fun _ H1 => D.nx σ H1) : tDrop te D σ H := q
theorem z_ifS (q : tt σ H fun b H1 => if b = true then t D σ H1 else u D σ H1) : tIfS tt t u D σ H := q
theorem z_par {i j : Nat} {ta : TA} (q : ta σ H fun vs H1 => ∃ v w, vs = [v, w] ∧ D.nx ((σ.set i (some v)).set j (some w)) H1) : tPar i j ta D σ H := q
theorem z_par2 {v w : V} {P : V → V → Prop} (q : P v w) : ∃ v' w', [v, w] = [v', w'] ∧ P v' w' := ⟨v, w, rfl, q⟩
theorem z_nx {n : L2.St → Hp → Prop} {rt : VK} {bk ct : L2.St → Hp → Prop} (q : n σ H) : Ends.nx ⟨n, rt, bk, ct⟩ σ H := q
theorem z_rt {n : L2.St → Hp → Prop} {rt : VK} {bk ct : L2.St → Hp → Prop} (q : rt v H) : Ends.rt ⟨n, rt, bk, ct⟩ v H := q
theorem z_bk {n : L2.St → Hp → Prop} {rt : VK} {bk ct : L2.St → Hp → Prop} (q : bk σ H) : Ends.bk ⟨n, rt, bk, ct⟩ σ H := q
theorem z_ct {n : L2.St → Hp → Prop} {rt : VK} {bk ct : L2.St → Hp → Prop} (q : ct σ H) : Ends.ct ⟨n, rt, bk, ct⟩ σ H := q
theorem z_break (q : D.bk σ H) : tBreak D σ H := q
theorem z_cont (q : D.ct σ H) : tCont D σ H := q
/-- a decided branch -/
theorem z_T {A B : Prop} (h : A) : if true = true then A else B := by rw [if_pos rfl]; exact h
theorem z_F {A B : Prop} (h : B) : if false = true then A else B := by rw [if_neg Bool.false_ne_true]; exact h
theorem z_dT {c : Prop} [Decidable c] {A B : Prop} (hc : c) (h : A) : if decide c = true then A else B := by rw [if_pos (decide_eq_true hc)]; exact h
theorem z_dF {c : Prop} [Decidable c] {A B : Prop} (hc : ¬ c) (h : B) : if decide c = true then A else B := by rw [decide_eq_false hc, if_neg Bool.false_ne_true]; exact h
theorem z_d2 {c : Prop} [Decidable c] {A B : Prop} (h1 : c → A) (h2 : ¬ c → B) : if decide c = true then A else B := by
  by_cases h : c
  · exact z_dT h (h1 h)
  · exact z_dF h (h2 h)
theorem z_nT {c : Prop} [Decidable c] {A B : Prop} (hc : ¬ c) (h : A) : if (!decide c) = true then A else B := by rw [decide_eq_false hc]; exact z_T h
theorem z_nF {c : Prop} [Decidable c] {A B : Prop} (hc : c) (h : B) : if (!decide c) = true then A else B := by rw [decide_eq_true hc]; exact z_F h
theorem z_n2 {c : Prop} [Decidable c] {A B : Prop} (h1 : ¬ c → A) (h2 : c → B) : if (!decide c) = true then A else B := by
  by_cases h : c
  · exact z_nF h (h2 h)
  · exact z_nT h (h1 h)
theorem z_b2 {b : Bool} {A B : Prop} (h1 : b = true → A) (h2 : b = false → B) : if b = true then A else B := by
  cases b
  · exact z_F (h2 rfl)
  · exact z_T (h1 rfl)
theorem z_nn {b : Bool} {A B : Prop} (h : if b = true then B else A) : if (!b) = true then A else B := by
  cases b
  · exact z_T (by simpa using h)
  · exact z_F (by simpa using h)
end
end Z

set_option maxHeartbeats 4000000
/-! facts of the text behind the top, read by one look; the law's end -/
namespace Z
open PySem PySem.Spec PyProof.Rows L2
abbrev Frag := PySem.W.Frag
abbrev Chk := Frag → Bool
abbrev SeenZ : Type := Bool × List He.FnW
def seenK (fb : List Chk) (fn : List He.DefD) (K : Frag) : SeenZ := ((fb.all fun c => c K) && fn.all fun d => d.ok K, fn.map fun d => He.fnW K d.at_)
def dueK (fn : List He.DefD) : SeenZ := (true, fn.map He.DefD.val)
def Says (fb : List Chk) (fn : List He.DefD) (K : Frag) : Prop := seenK fb fn K = dueK fn
def seenG (n : Nat) (fb : List Chk) (fn : List He.DefD) (g : Addr → Option Obj) : SeenZ := seenK fb fn (He.frG g (He.asD g n))
def hookZ (n : Nat) (fb : List Chk) (fn : List He.DefD) : PySem.W.Hook where
  α := SeenZ
  val := fun _ => dueK fn
  obs := fun st => seenG n fb fn st.heap.get?
  says := fun _ hp => ∃ K : Frag, K.In hp ∧ Says fb fn K
  keeps := fun _ _ _ ⟨K, hin, c⟩ kp => ⟨K, PySem.W.Frag.In.keeps hin kp, c⟩
  of := fun _ _ eq => ⟨_, He.frG_in, eq⟩
theorem seenG_eq {n : Nat} {fb : List Chk} {fn : List He.DefD} {g : Addr → Option Obj} {st : Shared} (h : ∀ a, g a = st.heap.get? a) : seenG n fb fn g = (hookZ n fb fn).obs st := by
  rw [show g = st.heap.get? from funext h] <;> rfl
section
variable {fb : List Chk} {fn : List He.DefD} {K : Frag}
theorem Says.fact (c : Says fb fn K) (i : Nat) {f : Chk} (h : fb[i]? = some f := by rfl) : f K = true := by
  have q := (He.ba (congrArg (fun z : SeenZ => z.1) c)).1
  exact List.all_eq_true.mp q f (List.mem_of_getElem? h)
theorem Says.def_ (c : Says fb fn K) (i : Nat) {d : He.DefD} (h : fn[i]? = some d := by rfl) : ∃ fd, FunD K d.name d.qual d.params d.body d.scope (d.dvs K) (d.kws K) (He.fAd K d.at_) fd := by
  have q := (He.ba (congrArg (fun z : SeenZ => z.1) c)).2
  have e : fn.map (fun d => He.fnW K d.at_) = fn.map He.DefD.val := congrArg (fun z : SeenZ => z.2) c
  have e2 := congrArg (fun l => l[i]?) e
  simp only [List.getElem?_map, h, Option.map_some] at e2
  exact He.DefD.funD (Option.some.inj e2) (List.all_eq_true.mp q d (List.mem_of_getElem? h))
end
/-- what a law's proof knows of the written part -/
structure Lw0 (fb : List Chk) (fn : List He.DefD) (K : Frag) (mg : Str → Option Value) : Prop where
  at_ : ∃ h : Heap, K.In h ∧ h.Ns mainGlobals mg
  c : Says fb fn K

/-! ### the looks -/
def cGlo (x : Str) : Chk := fun K => (He.Fa.glo x).ok K
def cFree (x : Str) : Chk := fun K => (He.Fa.free x).ok K
def cVal (x : Str) (id : String) : Chk := fun K => He.eqO (PySem.W.nsIn K mainGlobals x) (some (some (.builtin id)))
def cCls (x : Str) : Chk := fun K => (He.Fa.cls x).ok K
def cNo (x f : Str) : Chk := fun K => (He.Fa.noat x f).ok K
def cMeth (x m : Str) : Chk := fun K => (He.Fa.meth x m).ok K
def cMk (x : Str) : Chk := fun K => (He.Fa.mkr x).ok K
def cExc0 (x : Str) : Chk := fun K => (He.Fa.exc x).ok K
def cExm (x y : Str) (b : Bool) : Chk := fun K => (He.Fa.exm x y b).ok K
def cSelf (x : Str) : Chk := fun K => PySem.W.selfFirst K (He.ga K x)
/-- an exception class whose own __init__ is walked -/
def oexB (K : Frag) (C : Addr) : Bool := match K.lookup C with
  | some ⟨.type t, _, .cls cd, sl⟩ => (match cd.mro, sl.toList with
    | .ref C' :: bm, [_, _, _, _, some (.builtin n), _] => decide (t = "type") && (decide (C' = C) && (decide (n = "ValueError.__new__") && (!cd.hasDel && (cd.hasDict && PySem.HandSPX.refsVE bm))))
    | _, _ => false)
  | _ => false
theorem oexB_ok {K : Frag} {C : Addr} (h : oexB K C = true) : ∃ nm q N bs bm sn sub ab col dd k0 k1 k2 k3 k5, K.lookup C = some (excClassObj nm q C N bs bm true sn sub ab col dd k0 k1 k2 k3 k5 "ValueError.__new__") ∧ PySem.HandSPX.refsVE bm = true := by
  unfold oexB at h
  split at h
  · rename_i t dd cd sl ho
    split at h
    · rename_i C' bm k0 k1 k2 k3 n k5 hm hs
      obtain ⟨h1, h⟩ := He.ba h
      obtain ⟨h2, h⟩ := He.ba h
      obtain ⟨h3, h⟩ := He.ba h
      obtain ⟨h4, h⟩ := He.ba h
      obtain ⟨h5, h6⟩ := He.ba h
      have e1 := of_decide_eq_true h1
      have e2 := of_decide_eq_true h2
      have e3 := of_decide_eq_true h3
      obtain ⟨nm, bs, mro, ns, qn, hd, sn, sub, ab, col, del⟩ := cd
      have e4 : del = false := by simpa using h4
      have e5 : hd = true := h5
      dsimp only at hm
      subst hm e4 e5 e1 e2 e3
      have hsl : sl = #[k0, k1, k2, k3, some (.builtin "ValueError.__new__"), k5] := by
        obtain ⟨l⟩ := sl
        simp only at hs
        rw [hs]
      subst hsl
      exact ⟨nm, qn, ns, bs, bm, sn, sub, ab, col, dd, k0, k1, k2, k3, k5, ho, h6⟩
    · cases h
  · cases h
def cOex (x : Str) : Chk := fun K => oexB K (He.ga K x) && (He.eqO (PySem.W.findIn K (.ref (He.ga K x)) "__setattr__") (some (some (.builtin "object.__setattr__"))) && (decide (PySem.W.subIn K (.ref (He.ga K x)) (.type "BaseException") = some true) &&
  (decide (PySem.W.typeIn K (.ref (He.ga K x)) = some (.type "type")) && (PySem.W.keepIn K (.ref (He.ga K x)) && (He.eqO (PySem.W.findIn K (.ref (He.ga K x)) "__init__") (some (some (.ref (He.ma K (He.ga K x) "__init__")))) && decide (PySem.W.typeIn K (.ref (He.ma K (He.ga K x) "__init__")) = some (.type "function")))))))
theorem oex_ok {K : Frag} {x : Str} (h : cOex x K = true) : OexC K (He.ga K x) ∧ PySem.W.findIn K (.ref (He.ga K x)) "__init__" = some (some (.ref (He.ma K (He.ga K x) "__init__"))) ∧ PySem.W.typeIn K (.ref (He.ma K (He.ga K x) "__init__")) = some (.type "function") := by
  obtain ⟨h1, h⟩ := He.ba h
  obtain ⟨h2, h⟩ := He.ba h
  obtain ⟨h3, h⟩ := He.ba h
  obtain ⟨h4, h⟩ := He.ba h
  obtain ⟨h5, h⟩ := He.ba h
  obtain ⟨h6, h7⟩ := He.ba h
  exact ⟨⟨oexB_ok h1, He.eqO_ok h2, of_decide_eq_true h3, of_decide_eq_true h4, h5⟩, He.eqO_ok h6, of_decide_eq_true h7⟩
/-- an exception of this class caught: its fields, isinstance -/
def cExcC (x : Str) : Chk := fun K => He.eqO (PySem.W.findIn K (.ref (He.ga K x)) "__getattribute__") (some (some (.builtin "BaseException.__getattribute__"))) && (He.eqO (PySem.W.findIn K (.ref (He.ga K x)) "__getattr__") (some none) && (decide (PySem.W.subIn K (.ref (He.ga K x)) (.type "BaseException") = some true) &&
  (PySem.W.hasDictIn K (He.ga K x) && (He.eqO (PySem.W.findIn K (.ref (He.ga K x)) "__class__") (some (some (.builtin "object.__class__"))) && (decide (PySem.W.specialIn K (.builtin "object.__class__") "__get__" = some (some (.builtin "getset_descriptor.__get__"))) &&
  (decide (PySem.W.takesIn K (.builtin "object.__class__") = some true) && decide (PySem.W.mroIn K (He.ga K x) (.type "object") = some true)))))))
theorem excC_ok {K : Frag} {x : Str} (h : cExcC x K = true) : ExcC K (He.ga K x) := by
  obtain ⟨h1, h⟩ := He.ba h
  obtain ⟨h2, h⟩ := He.ba h
  obtain ⟨h3, h⟩ := He.ba h
  obtain ⟨h4, h⟩ := He.ba h
  obtain ⟨h5, h⟩ := He.ba h
  obtain ⟨h6, h⟩ := He.ba h
  obtain ⟨h7, h8⟩ := He.ba h
  exact ⟨He.eqO_ok h1, He.eqO_ok h2, of_decide_eq_true h3, h4, He.eqO_ok h5, of_decide_eq_true h6, of_decide_eq_true h7, of_decide_eq_true h8⟩
theorem _root_.L2.ExcC.xf {K : Frag} {C : Addr} (c : ExcC K C) : XfC K C := ⟨c.hg, c.hk, c.hs, c.hd⟩
/-- isinstance of an instance of this class -/
structure InsK (K : Frag) (C : Addr) : Prop where
  cl : Cls K C
  ha : PySem.W.findIn K (.ref C) "__class__" = some (some (.builtin "object.__class__"))
  hn : PySem.W.specialIn K (.builtin "object.__class__") "__get__" = some (some (.builtin "getset_descriptor.__get__"))
  ht : PySem.W.takesIn K (.builtin "object.__class__") = some true
  hm : PySem.W.mroIn K C (.type "object") = some true
theorem InsK.ty {K : Frag} {C a dx : Addr} {fs : List (Str × V)} {H : Hp} (c : InsK K C) (h : H a = some (.ins C dx fs)) : TyX K H (.ref a) (.ref C) := .base (.ins h c.cl c.ha c.hn c.ht c.hm)
def cIns (x : Str) : Chk := fun K => (He.Fa.cls x).ok K && (He.eqO (PySem.W.findIn K (.ref (He.ga K x)) "__class__") (some (some (.builtin "object.__class__"))) && (decide (PySem.W.specialIn K (.builtin "object.__class__") "__get__" = some (some (.builtin "getset_descriptor.__get__"))) &&
  (decide (PySem.W.takesIn K (.builtin "object.__class__") = some true) && decide (PySem.W.mroIn K (He.ga K x) (.type "object") = some true))))
theorem insK_ok {K : Frag} {x : Str} (h : cIns x K = true) : InsK K (He.ga K x) := by
  obtain ⟨h1, h⟩ := He.ba h
  obtain ⟨h5, h⟩ := He.ba h
  obtain ⟨h6, h⟩ := He.ba h
  obtain ⟨h7, h8⟩ := He.ba h
  exact ⟨He.cls_ok h1, He.eqO_ok h5, of_decide_eq_true h6, of_decide_eq_true h7, of_decide_eq_true h8⟩
/-- isinstance's answer for an instance of x asked for the class y; for a value of the built-in type t asked for y; for an instance of x asked for the built-in type t -/
def cKit (x y : Str) (b : Bool) : Chk := fun K => decide (PySem.W.kitOne K (.ref (He.ga K x)) (.ref (He.ga K y)) = some b)
def cKitT (t : String) (y : Str) (b : Bool) : Chk := fun K => decide (PySem.W.kitOne K (.type t) (.ref (He.ga K y)) = some b)
def cKitU (x : Str) (t : String) (b : Bool) : Chk := fun K => decide (PySem.W.kitOne K (.ref (He.ga K x)) (.type t) = some b)

/-! ### isinstance of a caught exception -/
def rIsX (K : Frag) (D : Addr) (a : Addr) : List V → Hp → VK → Prop := fun xs H Q => ∃ (c : V) (cv : Value) (b : Bool), xs = [.ref a, c] ∧ ClsV c cv ∧ PySem.W.kitOne K (.ref D) cv = some b ∧ Q (.bl b) H
/-- the caught one's class is D, its dict none or a tracked one -/
theorem call_isEx {X : Cx} {a D : Addr} {oe : Obj} {cls : Value} {d : Option Addr} {pn : List (Addr × Obj)} (C : ExcC X.K D) (hz : Zc cls d oe) (hf : ∃ vs, oe.data = .fields vs) :
    CallR (X.suite a ((a, oe) :: pn)) (.builtin "isinstance") (fun xs H Q => cls = .ref D ∧ (∀ dd, d = some dd → ∃ fs, H dd = some (.xd fs)) ∧ rIsX X.K D a xs H Q) := by
  intro pi s0 sl H0 xs us Q0 J r h0
  obtain ⟨ec, hd, c, cv, b, rfl, kc, e, q⟩ := h0
  obtain ⟨u1, u2, rfl, r1, r2⟩ := vals2 r
  obtain rfl : u1 = Value.ref a := r1
  have e2 := kc.eq r2
  subst e2
  subst ec
  obtain ⟨hget, _⟩ := J.pin (a, oe) (List.mem_append_left _ List.mem_cons_self)
  obtain ⟨vs, hv⟩ := hf
  have nc : PySem.W.notCls oe := by unfold PySem.W.notCls; rw [hv] <;> rfl
  have inst : ∃ od, PySem.W.InstAt s0.heap a oe D od := by
    cases d with
    | none => exact ⟨none, hget, hz.1, nc, by rw [hz.2]; trivial⟩
    | some dd =>
      obtain ⟨fs, hx⟩ := hd dd rfl
      have ox : ObjOk X.prog X.w H0 s0.heap dd (.xd fs) := J.hok dd _ hx
      obtain ⟨mA, hns, _⟩ := ox
      obtain ⟨od, ho, _⟩ := lookIn_ns hns
      exact ⟨some od, hget, hz.1, nc, by rw [hz.2]; exact ho⟩
  obtain ⟨od, I0⟩ := inst
  have hcl : (PySem.W.clsIn X.K D).isSome = true := by
    obtain ⟨cdD, hcD, _⟩ := PySem.W.any_some C.hd
    rw [hcD] <;> rfl
  exact PySem.W.kia_one (PySem.W.kitx_exc hcl C.hg C.hk C.hs C.ha C.hn C.ht C.hm) J.kIn I0 e (fun z => nomatch z) fun tk => ⟨.bl b, H0, J.kept (t' := tk) fun _ _ z => z, rfl, q⟩

/-! ### calls within an except suite -/
section
variable {X : Cx} {k j : Nat} {sp : Sp} {x : Str} {p pos : Pos} {e : Expr} {es : List Expr} {t : TA}
theorem takesF {X : Cx} : L2N.Takes X (fun _ _ _ _ => False) := fun _ _ ⟨_, _, _, _, _, _, _, _, _, _, _, _, _, _, _, _, z⟩ => z.elim
theorem pe_ch (c : CalH X.prog X.w X.K X.mg X.base k x sp) (hr : L2H.RoomH j X.A) (hk : k ≤ j) (hot : L2H.HotC X) (ha : PA X (e :: es) t) (hg : Gl X x := by rfl)
    (hdb : (x == ("__debug__" : Str)) = false := by decide) (he : starEach (e :: es) X.env = (false, eval e X.env) :: starEach es X.env := by rfl) (hpl : (backTo pos (starEach es X.env)).any (·.1) = false := by rfl) :
    PE X (.Call (.Name x p) (e :: es) [] pos) (tCallW sp [] (fun _ _ _ _ => False) t) := by
  obtain ⟨f, fd, ps, F, hm, kp, b⟩ := c.ex
  have h := L2H.pe_callH (E := fun _ _ _ _ => False) F (hr.mono hk) hot hg hm kp b (fun σ => L2N.passAt takesF σ) ha (q := p) hdb he hpl
  refine ⟨fun pi s0 sl H0 Q0 J h0 => h.run pi s0 sl H0 Q0 J ?_⟩
  have e1 : (tCallW sp [] (fun _ _ _ _ => False) t) = L2.tCallS sp (fun _ _ _ _ => False) t := by
    unfold tCallW L2.tCallS
    funext σ H Q
    simp only [List.append_nil]
  rw [← e1]
  exact h0
end

/-! ### names of types and classes as values -/
theorem pe_ty {X : Cx} {x : Str} {pos : Pos} (n : String) (hg : Gl X x) (hm : X.mg x = none) (hv : bootBuiltins x = some (.type n)) (hn : x ≠ "__name__" := by decide) (hd : (x == ("__debug__" : Str)) = false := by decide) : PE X (.Name x pos) (tC (.ty n)) :=
  pe_bltn (v := .ty n) (u := .type n) hg hm hv rfl hn hd
theorem pe_cls {X : Cx} {x : Str} {pos : Pos} {a : Addr} (hm : X.mg x = some (.ref a)) (hg : Gl X x := by rfl) (hd : (x == ("__debug__" : Str)) = false := by decide) : PE X (.Name x pos) (tC (.ref a)) :=
  pe_glob (v := .ref a) (u := .ref a) hg hm rfl hd

/-! ### promises by the number of arguments -/
abbrev F1 := V → Hp → VK → XK → Prop
abbrev F2 := V → V → Hp → VK → XK → Prop
abbrev F3 := V → V → V → Hp → VK → XK → Prop
abbrev F4 := V → V → V → V → Hp → VK → XK → Prop
abbrev F5 := V → V → V → V → V → Hp → VK → XK → Prop
abbrev F6 := V → V → V → V → V → V → Hp → VK → XK → Prop
def sp0 (f : Hp → VK → XK → Prop) : Sp := fun vs H Q E => vs = [] ∧ f H Q E
def sp1 (f : F1) : Sp := fun vs H Q E => ∃ a, vs = [a] ∧ f a H Q E
def sp2 (f : F2) : Sp := fun vs H Q E => ∃ a b, vs = [a, b] ∧ f a b H Q E
def sp3 (f : F3) : Sp := fun vs H Q E => ∃ a b c, vs = [a, b, c] ∧ f a b c H Q E
def sp4 (f : F4) : Sp := fun vs H Q E => ∃ a b c d, vs = [a, b, c, d] ∧ f a b c d H Q E
def sp5 (f : F5) : Sp := fun vs H Q E => ∃ a b c d e, vs = [a, b, c, d, e] ∧ f a b c d e H Q E
def sp6 (f : F6) : Sp := fun vs H Q E => ∃ a b c d e g, vs = [a, b, c, d, e, g] ∧ f a b c d e g H Q E
section
variable {H : Hp} {Q : VK} {E : XK} {a b c d e g : V} {vs : List V}
theorem len0 {f : Hp → VK → XK → Prop} : ∀ vs H Q E, sp0 f vs H Q E → vs.length = 0 := by rintro _ _ _ _ ⟨rfl, _⟩; rfl
theorem len1 {f : F1} : ∀ vs H Q E, sp1 f vs H Q E → vs.length = 1 := by rintro _ _ _ _ ⟨_, rfl, _⟩; rfl
theorem len2 {f : F2} : ∀ vs H Q E, sp2 f vs H Q E → vs.length = 2 := by rintro _ _ _ _ ⟨_, _, rfl, _⟩; rfl
theorem len3 {f : F3} : ∀ vs H Q E, sp3 f vs H Q E → vs.length = 3 := by rintro _ _ _ _ ⟨_, _, _, rfl, _⟩; rfl
theorem len4 {f : F4} : ∀ vs H Q E, sp4 f vs H Q E → vs.length = 4 := by rintro _ _ _ _ ⟨_, _, _, _, rfl, _⟩; rfl
theorem len5 {f : F5} : ∀ vs H Q E, sp5 f vs H Q E → vs.length = 5 := by rintro _ _ _ _ ⟨_, _, _, _, _, rfl, _⟩; rfl
theorem len6 {f : F6} : ∀ vs H Q E, sp6 f vs H Q E → vs.length = 6 := by rintro _ _ _ _ ⟨_, _, _, _, _, _, rfl, _⟩; rfl
theorem z_sp0 {f : Hp → VK → XK → Prop} (h : f H Q E) : sp0 f [] H Q E := ⟨rfl, h⟩
theorem z_sp1 {f : F1} (h : f a H Q E) : sp1 f [a] H Q E := ⟨_, rfl, h⟩
theorem z_sp2 {f : F2} (h : f a b H Q E) : sp2 f [a, b] H Q E := ⟨_, _, rfl, h⟩
theorem z_sp3 {f : F3} (h : f a b c H Q E) : sp3 f [a, b, c] H Q E := ⟨_, _, _, rfl, h⟩
theorem z_sp4 {f : F4} (h : f a b c d H Q E) : sp4 f [a, b, c, d] H Q E := ⟨_, _, _, _, rfl, h⟩
theorem z_sp5 {f : F5} (h : f a b c d e H Q E) : sp5 f [a, b, c, d, e] H Q E := ⟨_, _, _, _, _, rfl, h⟩
theorem z_sp6 {f : F6} (h : f a b c d e g H Q E) : sp6 f [a, b, c, d, e, g] H Q E := ⟨_, _, _, _, _, _, rfl, h⟩
/- .. behind a call's written arguments -/
theorem z_sq0 {sp : Sp} (h : sp vs H Q E) : sp (vs ++ []) H Q E := by rw [List.append_nil]; exact h
theorem z_sq1 {sp : Sp} (h : sp (a :: vs) H Q E) : sp (a :: (vs ++ [])) H Q E := by rw [List.append_nil]; exact h
end

/-- nothing leaves the law -/
theorem noCX {P : Program} {w : World} (H : Hp) (s : Shared) (e : Value) (s' : Shared) (h : L2N.CX P w [] H s (fun _ _ _ => False) e s') : False := by
  obtain ⟨_, _, _, _, _, _, _, _, _, _, _, _, z⟩ := h
  exact z.elim
end Z
namespace Z
open PySem PySem.Spec PyProof.Rows L2
/-- a def of which nothing is raised -/
theorem fn_quiet {P : Program} {w : World} {K : Frag} {mg : Str → Option Value} {base : Heap} {k : Nat} {f : Addr} {fd : FuncData} {ps : List Str} {sp : Sp} (F : FnOk P w K mg base (L2N.CX P w) k f fd ps sp) (hs : ∀ vs H Q E, sp vs H Q E → sp vs H Q (fun _ _ _ => False)) :
    FnOk P w K mg base L2.CX0 k f fd ps sp :=
  ⟨F.len, fun A outer s H args us vs Q E hr he hb hv h => codeAny_mono (F.run A outer s H args us vs Q _ hr he hb hv (hs _ _ _ _ h)) fun r s1 q => by
    match r, q with
    | .ok (.ret u), q => exact q
    | .error e, q =>
      obtain ⟨_, _, _, _, _, _, _, _, _, _, _, _, z⟩ := q
      exact z.elim⟩
def spLaw (K : Frag) : Sp := fun vs H Q _ => ∃ (a : Addr) (ns : List Int), vs = [.ref a] ∧ SqL K H a (ns.map V.int) ∧ ns.length ≤ 63 ∧ ∀ H', Q (.bl true) H'
end Z

set_option maxHeartbeats 4000000
/-! what is carried from heap to heap; calls of built-ins, step by step -/
namespace Z
open PySem PySem.Spec PyProof.Rows L2
section
variable {K : Frag} {H H' H1 H2 : Hp} {Q : VK} {a : Addr} {xs : List V} {o : HO}
theorem Same.at (e : Same H H') (h : H a = some o) : H' a = some o := e a o h
theorem Same.new {p : Addr} (h : H p = none) : Same H (upd H p o) := fun b u hb => by rw [upd_ne (ne_of_none hb h)]; exact hb
theorem z_ixT {p : Addr} {i : Int} {v : V} (h : H p = some (.tup xs)) (e : atI xs i = some v) (q : Q v H) : rIx K (.ref p) (.int i) H Q := .inr (.inl ⟨p, xs, i, v, rfl, rfl, SqT.of h, e, q⟩)
theorem z_ixL {p : Addr} {i : Int} {v : V} (h : SqL K H p xs) (e : atI xs i = some v) (q : Q v H) : rIx K (.ref p) (.int i) H Q := .inl ⟨p, xs, i, v, rfl, rfl, h, e, q⟩
theorem z_new {t : List V → HO} {n : Nat} (hn : n ≤ 16777216) (k : ∀ p, H p = none → Same H (upd H p (t xs)) → upd H p (t xs) p = some (t xs) → Q (.ref p) (upd H p (t xs))) : n ≤ sizeLine ∧ ∀ p, H p = none → Q (.ref p) (upd H p (t xs)) :=
  ⟨by rw [sizeLine_eq]; exact hn, fun p hp => k p hp (Same.new hp) upd_same⟩
theorem _root_.L2.Same.step {H H1 H2 : Hp} (e : Same H H1) (h : Same H1 H2) : Same H H2 := e.trans h
/-! named calls of built-ins -/
def rInt1 : List V → Hp → VK → Prop := fun xs H Q => (∃ i, xs = [.int i] ∧ Q (.int i) H) ∨ ∃ k, xs = [.bl k] ∧ Q (.int (if k then 1 else 0)) H
def rAbs1 : List V → Hp → VK → Prop := fun xs H Q => ∃ i, xs = [.int i] ∧ Q (.int (if i < 0 then -i else i)) H
def rLen1 (K : Frag) : List V → Hp → VK → Prop := fun xs H Q => ∃ x n, xs = [x] ∧ LenV K x H n ∧ Q (.int n) H
def rMax2z : List V → Hp → VK → Prop := fun xs H Q => ∃ i j, xs = [.int i, .int j] ∧ Q (.int (if j > i then j else i)) H
def rMin2z : List V → Hp → VK → Prop := fun xs H Q => ∃ i j, xs = [.int i, .int j] ∧ Q (.int (if j < i then j else i)) H
theorem z_int1 {n : Int} (q : Q (.int n) H) : rInt1 [.int n] H Q := .inl ⟨n, rfl, q⟩
theorem z_intb {b : Bool} (q : Q (.int (if b then 1 else 0)) H) : rInt1 [.bl b] H Q := .inr ⟨b, rfl, q⟩
theorem z_abs {n : Int} (q : Q (.int (n.natAbs : Int)) H) : rAbs1 [.int n] H Q := ⟨n, rfl, by
  have e : (if n < 0 then -n else n) = (n.natAbs : Int) := by split <;> omega
  rw [e]; exact q⟩
theorem z_lenL {p : Addr} (h : SqL K H p xs) (q : Q (.int (xs.length : Int)) H) : rLen1 K [.ref p] H Q := ⟨_, _, rfl, .inl ⟨xs, h, rfl⟩, q⟩
theorem z_lenT {p : Addr} (h : H p = some (.tup xs)) (q : Q (.int (xs.length : Int)) H) : rLen1 K [.ref p] H Q := ⟨_, _, rfl, .inr ⟨xs, SqT.of h, rfl⟩, q⟩
theorem z_max2 {i j : Int} (q : Q (.int (max i j)) H) : rMax2z [.int i, .int j] H Q := ⟨i, j, rfl, by
  have e : (if j > i then j else i) = max i j := by rw [Int.max_def]; split <;> split <;> omega
  rw [e]; exact q⟩
theorem z_min2 {i j : Int} (q : Q (.int (min i j)) H) : rMin2z [.int i, .int j] H Q := ⟨i, j, rfl, by
  have e : (if j < i then j else i) = min i j := by rw [Int.min_def]; split <;> split <;> omega
  rw [e]; exact q⟩
theorem z_gcd {i j : Int} (q : Q (.int (Int.gcd i j : Nat)) H) : rGcd [.int i, .int j] H Q := ⟨i, j, rfl, q⟩
theorem z_isi {x c : V} {t u : Value} {b : Bool} (hc : ClsV c u) (ht : TyX K H x t) (hk : PySem.W.kitOne K t u = some b) (q : Q (.bl b) H) : rIsi K [x, c] H Q := ⟨x, c, t, u, b, rfl, hc, ht, hk, q⟩
theorem z_isiI {n : String} {b : Bool} {i : Int} (hk : kitB "int" n = some b) (q : Q (.bl b) H) : rIsi K [.int i, .ty n] H Q := z_isi (.ty n) (.base (.int i)) (kit_ty hk) q
theorem z_isiB {n : String} {b c : Bool} (hk : kitB "bool" n = some b) (q : Q (.bl b) H) : rIsi K [.bl c, .ty n] H Q := z_isi (.ty n) (.base (.bl c)) (kit_ty hk) q
theorem z_isi_ii {i : Int} (q : Q (.bl true) H) : rIsi K [.int i, .ty "int"] H Q := z_isiI (by decide +kernel) q
theorem z_isi_ib {i : Int} (q : Q (.bl false) H) : rIsi K [.int i, .ty "bool"] H Q := z_isiI (by decide +kernel) q
theorem cell_at {ns : List Int} {k : Int} (h0 : 0 ≤ k) (h : k < ((ns.map V.int).length : Int)) : atI (ns.map V.int) k = some (.int (ns.getD k.toNat 0)) := by
  obtain ⟨n, rfl⟩ := Int.eq_ofNat_of_zero_le h0
  have hn : n < ns.length := by
    rw [List.length_map] at h
    omega
  refine atI_nat ?_
  rw [List.getElem?_map, List.getElem?_eq_getElem hn]
  show some (V.int ns[n]) = some (V.int (ns.getD n 0))
  rw [List.getD_eq_getElem?_getD, List.getElem?_eq_getElem hn]
  rfl
theorem cell_out {ns : List Int} {k : Int} (h0 : 0 ≤ k) (h : ¬ k < ((ns.map V.int).length : Int)) : ns.getD k.toNat 0 = 0 := by
  rw [List.length_map] at h
  rw [List.getD_eq_getElem?_getD, List.getElem?_eq_none (by omega)]
  rfl
end
section
variable {X : Cx}
theorem o_int1 : CallR X (.type "int") rInt1 := call_int1
theorem o_abs : CallR X (.builtin "abs") rAbs1 := call_abs
theorem o_len : CallR X (.builtin "len") (rLen1 X.K) := call_len
theorem o_max2 (hc : X.calm = true) : CallR X (.builtin "max") rMax2z := call_max2 hc
theorem o_min2 (hc : X.calm = true) : CallR X (.builtin "min") rMin2z := call_min2 hc
end

/-! ### instances -/
/-- the fields of a Ratio -/
def rF (v w : V) : List (Str × V) := [(("top" : Str), v), (("bottom" : Str), w)]
/-- a Ratio with these fields -/
def IsR (K : Frag) (H : Hp) (a : Addr) (t b : Int) : Prop := ∃ dx, H a = some (.ins (He.ga K "Ratio") dx (rF (.int t) (.int b)))
section
variable {K : Frag} {H H' : Hp} {Q : VK} {a : Addr} {t b : Int} {v w : V}
theorem IsR.mono (e : Same H H') (h : IsR K H a t b) : IsR K H' a t b := h.elim fun dx q => ⟨dx, e _ _ q⟩
theorem tb_ne : ¬ (("top" : Str) = "bottom") := by decide +kernel
theorem bt_ne : ¬ (("bottom" : Str) = "top") := by decide +kernel
theorem rf_top : (rF v w).lookup ("top" : Str) = some v := by
  unfold rF
  rw [lookup_put, if_pos rfl]
theorem rf_bottom : (rF v w).lookup ("bottom" : Str) = some w := by
  unfold rF
  rw [lookup_put, if_neg bt_ne, lookup_put, if_pos rfl]
theorem rf_no {m : Str} (h1 : ¬ m = "top") (h2 : ¬ m = "bottom") : (rF v w).lookup m = none := by
  unfold rF
  rw [lookup_put, if_neg h1, lookup_put, if_neg h2]
  rfl
/-- .. of a name that holds one -/
theorem z_fldt {i : Nat} {p : Addr} {t b : Int} {σ : L2.St} (c : Cls K (He.ga K "Ratio")) (n : NoAttr K (He.ga K "Ratio") "top") (hs : σ[i]? = some (some (.ref p))) (h : IsR K H p t b) (q : Q (.int t) H) : tFld K (tVar i) "top" σ H Q :=
  ⟨_, hs, h.elim fun dx hp => ⟨p, _, dx, _, _, rfl, hp, c, n, rf_top, q⟩⟩
theorem z_fldb {i : Nat} {p : Addr} {t b : Int} {σ : L2.St} (c : Cls K (He.ga K "Ratio")) (n : NoAttr K (He.ga K "Ratio") "bottom") (hs : σ[i]? = some (some (.ref p))) (h : IsR K H p t b) (q : Q (.int b) H) : tFld K (tVar i) "bottom" σ H Q :=
  ⟨_, hs, h.elim fun dx hp => ⟨p, _, dx, _, _, rfl, hp, c, n, rf_bottom, q⟩⟩
end
end Z

set_option maxHeartbeats 4000000
/-! defs within an except suite; exceptions with fields; a Ratio is made -/
namespace Z
open PySem PySem.Spec PyProof.Rows L2
section
variable {P : Program} {w : World} {K : Frag} {mg : Str → Option Value} {base : Heap} {x qual : Str} {params : Arguments} {body : List Stmt} {scope : Scope} {dvs : List V} {kws : List (Str × V)} {f : Addr} {fd : FuncData}
theorem okH {N ps : List Str} {k : Nat} {sp : Sp} (F : FunD K x qual params body scope dvs kws f fd) (S : FnScope N ps scope) (len : ∀ vs H Q E, sp vs H Q E → vs.length = ps.length)
    (hbody : ∀ (cdv : Value) (A : Around) (outer : List Env) (s : Shared) (H : Hp) (vs : List V) (Q : VK) (E : XK) (p : Addr × Obj), L2H.Hot1 (A.deeper (envOfC qual scope s.heap.objs.size f cdv)) p → L2H.RoomH k (A.deeper (envOfC qual scope s.heap.objs.size f cdv)) → sp vs H Q E →
      ∃ t, PSs (L2H.cxH (L2N.CX P w) P w K mg base N qual scope f cdv A outer s H E p) body t ∧ t { nx := fun _ H' => Q .non H', rt := Q } (start N vs) H) : L2H.FnH P w K mg base (L2N.CX P w) (k + 1) f fd ps sp := by
  obtain ⟨oc, od, dV, kV, doc, pm, an, cdv, ct, osl, rfl, lk, hcd, _, _⟩ := F.ex
  exact L2H.fn_ofH lk hcd S len fun A outer s H vs Q E p h1 hr hsp => hbody cdv A outer s H vs Q E p h1 hr hsp
end
theorem hot_suite {X : Cx} {a : Addr} {oe : Obj} {cls : Value} {d : Option Addr} {pn : List (Addr × Obj)} (hz : L2N.Zn cls d oe) (hf : ∃ vs, oe.data = .fields vs) : L2H.HotC (X.suite a ((a, oe) :: pn)) := by
  obtain ⟨vs, hv⟩ := hf
  exact ⟨(a, oe), ⟨rfl, vs, hv, hz.2.2 vs hv⟩, List.mem_cons_self⟩
theorem hot_in {CX : CXT} {P : Program} {w : World} {K : Frag} {mg : Str → Option Value} {base : Heap} {N : List Str} {qual : Str} {scope : Scope} {f : Addr} {cd : Value} {A : Around} {outer : List Env} {s : Shared} {H : Hp} {E : XK} {p : Addr × Obj} (h : L2H.Hot1 (A.deeper (envOfC qual scope s.heap.objs.size f cd)) p) :
    L2H.HotC (L2H.cxH CX P w K mg base N qual scope f cd A outer s H E p) := ⟨p, h, List.mem_cons_self⟩
theorem room_suite {k : Nat} {A : Around} (r : Room k A) (h : Option Value) : L2H.RoomH k (A.mark h) := ⟨r.dp, r.un⟩

/-! ### exceptions with one field, with two -/
def fs_ex1 (K : Frag) (C : Str) (f : Str) : F2 := fun a b H Q _ => ∃ (e : Addr) (H0 : Hp), a = .ref e ∧ H = upd H0 e (exo e (He.ga K C) none) ∧ H0 e = none ∧
  ∀ (d : Addr) (H' : Hp), H' e = some (exo e (He.ga K C) (some d)) → H' d = some (exd d [(f, b)]) → H0 d = none → Same H0 (upd (del H' e) d (.xd [(f, b)])) → Q .non H'
def fs_ex2 (K : Frag) (C : Str) (f g : Str) : F3 := fun a b c H Q _ => ∃ (e : Addr) (H0 : Hp), a = .ref e ∧ H = upd H0 e (exo e (He.ga K C) none) ∧ H0 e = none ∧
  ∀ (d : Addr) (H' : Hp), H' e = some (exo e (He.ga K C) (some d)) → H' d = some (exd d [(g, c), (f, b)]) → H0 d = none → Same H0 (upd (del H' e) d (.xd [(g, c), (f, b)])) → Q .non H'
section
variable {K : Frag} {H : Hp} {Q : XK} {C : Str} {f g : Str} {u v : V} {σ : L2.St}
theorem exo_exd {a C d dx : Addr} {o : Option Addr} {fs : List (Str × V)} {h : Heap} : True := trivial
/-- raise C(v) -/
theorem z_ex1 {ta : TA} (h : ta σ H fun vs H1 => ∃ u, vs = [u] ∧ ∀ (d : Addr) (H' : Hp), Same H1 H' → H' d = some (.xd [(f, u)]) → Q (.ref (He.ga K C)) (some d) H') (mono : ∀ {R R' : List V → Hp → Prop}, (∀ vs H1, R vs H1 → R' vs H1) → ta σ H R → ta σ H R') : tMkO (He.ga K C) (sp2 (fs_ex1 K C f)) [] ta σ H Q := by
  refine mono (fun vs H1 z => ?_) h
  obtain ⟨u, rfl, k⟩ := z
  refine ⟨(by show 1 ≤ 1000; decide), fun a ha => ⟨_, _, rfl, a, H1, rfl, rfl, ha, fun d H' e1 e2 hd s => ⟨rfl, d, _, e1, e2, hd, k d _ s upd_same⟩⟩⟩
theorem z_ex2 {ta : TA} (h : ta σ H fun vs H1 => ∃ u v, vs = [u, v] ∧ ∀ (d : Addr) (H' : Hp), Same H1 H' → H' d = some (.xd [(g, v), (f, u)]) → Q (.ref (He.ga K C)) (some d) H') (mono : ∀ {R R' : List V → Hp → Prop}, (∀ vs H1, R vs H1 → R' vs H1) → ta σ H R → ta σ H R') : tMkO (He.ga K C) (sp3 (fs_ex2 K C f g)) [] ta σ H Q := by
  refine mono (fun vs H1 z => ?_) h
  obtain ⟨u, v, rfl, k⟩ := z
  refine ⟨(by show 2 ≤ 1000; decide), fun a ha => ⟨_, _, _, rfl, a, H1, rfl, rfl, ha, fun d H' e1 e2 hd s => ⟨rfl, d, _, e1, e2, hd, k d _ s upd_same⟩⟩⟩
end
section
variable {K : Frag} {H H0 : Hp} {Q : VK} {E : XK} {C : Str} {f g : Str} {b c : V} {D : Ends} {σ : L2.St}
/-- self.f = b -/
theorem run_ex1 {e : Addr} (T : OexC K (He.ga K C)) (nf : PySem.W.findIn K (.ref (He.ga K C)) f = some none) (h0 : H0 e = none) (s0 : σ[0]? = some (some (.ref e))) (s1 : σ[1]? = some (some b))
    (k : ∀ (d : Addr) (H' : Hp), H' e = some (exo e (He.ga K C) (some d)) → H' d = some (exd d [(f, b)]) → H0 d = none → Same H0 (upd (del H' e) d (.xd [(f, b)])) → D.nx σ H') :
    tOst K f (tVar 0) (tVar 1) D σ (upd H0 e (exo e (He.ga K C) none)) := by
  refine ⟨_, s1, _, s0, e, _, rfl, T, nf, .inl ⟨upd_same, fun d hd ne => ?_⟩⟩
  have hd0 : H0 d = none := by rw [upd_ne ne] at hd; exact hd
  refine k d _ upd_same (by rw [upd_ne ne, upd_same]) hd0 fun x o hx => ?_
  rw [upd_ne (ne_of_none hx hd0), del_ne (ne_of_none hx h0), upd_ne (ne_of_none hx h0), upd_ne (ne_of_none hx hd0), upd_ne (ne_of_none hx h0)]
  exact hx
theorem run_ex2 {e : Addr} (T : OexC K (He.ga K C)) (nf : PySem.W.findIn K (.ref (He.ga K C)) f = some none) (ng : PySem.W.findIn K (.ref (He.ga K C)) g = some none) (h0 : H0 e = none) (s0 : σ[0]? = some (some (.ref e))) (s1 : σ[1]? = some (some b)) (s2 : σ[2]? = some (some c))
    (k : ∀ (d : Addr) (H' : Hp), H' e = some (exo e (He.ga K C) (some d)) → H' d = some (exd d [(g, c), (f, b)]) → H0 d = none → Same H0 (upd (del H' e) d (.xd [(g, c), (f, b)])) → D.nx σ H') :
    tSeq (tOst K f (tVar 0) (tVar 1)) (tOst K g (tVar 0) (tVar 2)) D σ (upd H0 e (exo e (He.ga K C) none)) := by
  refine ⟨_, s1, _, s0, e, _, rfl, T, nf, .inl ⟨upd_same, fun d hd ne => ?_⟩⟩
  have hd0 : H0 d = none := by rw [upd_ne ne] at hd; exact hd
  refine ⟨_, s2, _, s0, e, _, rfl, T, ng, .inr ⟨d, _, upd_same, by rw [upd_ne ne, upd_same], (by show 1 ≤ 900; decide), ?_⟩⟩
  refine k d _ (by rw [upd_ne ne.symm, upd_same]) upd_same hd0 fun x o hx => ?_
  rw [upd_ne (ne_of_none hx hd0), del_ne (ne_of_none hx h0), upd_ne (ne_of_none hx hd0), upd_ne (ne_of_none hx h0), upd_ne (ne_of_none hx hd0), upd_ne (ne_of_none hx h0)]
  exact hx
end

/-! ### a Ratio is made -/
def rc (n d : Int) : Int := if d < 0 then -((Int.gcd n d : Nat) : Int) else ((Int.gcd n d : Nat) : Int)
def rt (n d : Int) : Int := n.fdiv (rc n d)
def rb (n d : Int) : Int := d.fdiv (rc n d)
theorem rc_ne {n d : Int} (h : d ≠ 0) : rc n d ≠ 0 := by
  have : 0 < Int.gcd n d := Int.gcd_pos_of_ne_zero_right n h
  unfold rc
  split <;> omega
theorem rc_bits {n d : Int} {b : Nat} (h : d ≠ 0) (hb : Bits b d) : Bits b (rc n d) := by
  have h1 : Int.gcd n d ≤ d.natAbs := Nat.le_of_dvd (by omega) (by
    show Nat.gcd n.natAbs d.natAbs ∣ d.natAbs
    exact Nat.gcd_dvd_right _ _)
  unfold Bits at *
  unfold rc
  split <;> omega
theorem rt_pos {n d : Int} (h : 0 < d) : rt n d = n / (Int.gcd n d : Nat) ∧ rb n d = d / (Int.gcd n d : Nat) := by
  have e : rc n d = ((Int.gcd n d : Nat) : Int) := by unfold rc; rw [if_neg (by omega)]
  unfold rt rb
  rw [e, Int.fdiv_eq_ediv_of_nonneg _ (by omega), Int.fdiv_eq_ediv_of_nonneg _ (by omega)]
  exact ⟨rfl, rfl⟩
theorem rt_low {n d : Int} (h : 0 < d) (g : Int.gcd n d = 1) : rt n d = n ∧ rb n d = d := by
  obtain ⟨e1, e2⟩ := rt_pos (n := n) h
  rw [e1, e2, g]
  exact ⟨Int.ediv_one n, Int.ediv_one d⟩
theorem rt_spec {n d : Int} (h : 0 < d) : 0 < rb n d ∧ Int.gcd (rt n d) (rb n d) = 1 ∧ rt n d * d = n * rb n d := by
  obtain ⟨e1, e2⟩ := rt_pos (n := n) h
  have g0 : 0 < Int.gcd n d := Int.gcd_pos_of_ne_zero_right n (by omega)
  rw [e1, e2]
  refine ⟨?_, ?_, ?_⟩
  · exact Int.ediv_pos_of_pos_of_dvd h (by omega) (Int.gcd_dvd_right ..)
  · exact Int.gcd_ediv_gcd_ediv_gcd g0
  · obtain ⟨x, ex⟩ := Int.gcd_dvd_left (a := n) (b := d)
    obtain ⟨y, ey⟩ := Int.gcd_dvd_right (a := n) (b := d)
    generalize ((Int.gcd n d : Nat) : Int) = g at *
    have gn : g ≠ 0 := by
      intro z
      subst z
      simp at ey
      omega
    have q1 : n / g = x := by rw [ex, Int.mul_ediv_cancel_left _ gn]
    have q2 : d / g = y := by rw [ey, Int.mul_ediv_cancel_left _ gn]
    rw [q1, q2, ex, ey]
    grind
def fs_rinit (K : Frag) : F3 := fun a b c H Q E => ∃ (x dx : Addr) (H0 : Hp) (n d : Int), a = .ref x ∧ b = .int n ∧ c = .int d ∧ H = upd (upd H0 dx (.own x)) x (.ins (He.ga K "Ratio") dx []) ∧ H0 x = none ∧ H0 dx = none ∧ dx ≠ x ∧ Bits 8999 d ∧
  (d ≠ 0 → ∀ H', Same H0 H' → IsR K H' x (rt n d) (rb n d) → Q .non H') ∧ (d = 0 → ∀ H', Same H0 H' → E (.ref (He.ga K "ZeroBottom")) none H')
section
variable {K : Frag} {H : Hp} {Q : VK} {E : XK}
/-- Ratio(n, d) -/
theorem z_mkR {n d : Int} (hd : d ≠ 0) (hb : Bits 8999 d) (k : ∀ p H', Same H H' → IsR K H' p (rt n d) (rb n d) → Q (.ref p) H') :
    ∀ x dx, H x = none → H dx = none → dx ≠ x → sp3 (fs_rinit K) [.ref x, .int n, .int d] (upd (upd H dx (.own x)) x (.ins (He.ga K "Ratio") dx [])) (fun v H2 => v = .non ∧ Q (.ref x) H2) E :=
  fun x dx hx hdx ne => ⟨_, _, _, rfl, x, dx, H, n, d, rfl, rfl, rfl, rfl, hx, hdx, ne, hb, fun _ H' e r => ⟨rfl, k x H' e r⟩, fun z => absurd z hd⟩
/-- the two stores -/
theorem run_rinit {D : Ends} {σ : L2.St} {x dx : Addr} {H0 : Hp} {C : Addr} {tv tu : TE} {a b : V} (cl : Cls K C) (n1 : NoAttr K C "top") (n2 : NoAttr K C "bottom") (h0 : H0 x = none) (h1 : H0 dx = none) (ne : dx ≠ x) (s0 : σ[0]? = some (some (.ref x)))
    (e1 : ∀ H1, ∀ Q : VK, Q a H1 → tv σ H1 Q) (e2 : ∀ H1, ∀ Q : VK, Q b H1 → tu σ H1 Q) (k : ∀ H', Same H0 H' → H' x = some (.ins C dx (rF a b)) → D.nx σ H') :
    tSeq (sFld K (tVar 0) tv "top") (sFld K (tVar 0) tu "bottom") D σ (upd (upd H0 dx (.own x)) x (.ins C dx [])) := by
  refine e1 _ _ ⟨_, s0, x, C, dx, _, rfl, upd_same, cl, n1, by decide, ?_⟩
  refine e2 _ _ ⟨_, s0, x, C, dx, _, rfl, upd_same, cl, n2, by show 1 < 1000; decide, ?_⟩
  refine k _ (fun y o hy => ?_) ?_
  · rw [upd_ne (ne_of_none hy h0), upd_ne (ne_of_none hy h0), upd_ne (ne_of_none hy h0), upd_ne (ne_of_none hy h1)]
    exact hy
  · rw [upd_same]
    have e : putF "bottom" b (putF "top" a []) = rF a b := by
      show (if ("top" : Str) = "bottom" then _ else (("top" : Str), a) :: putF "bottom" b []) = _
      rw [if_neg tb_ne]
      rfl
    rw [e]
end
end Z
namespace Z
open PySem PySem.Spec PyProof.Rows L2
section
variable {K : Frag} {x qual : Str} {params : Arguments} {body : List Stmt} {scope : Scope} {dvs : List V} {kws : List (Str × V)} {f : Addr} {fd : FuncData} {ps : List Str}
/-- called with keywords in the reversed order, no defaults -/
theorem kbN (F : FunD K x qual params body scope [] kws f fd) (n : Nat) (ks : List Str)
    (h : ∀ (kV doc pm : Value) (an : Option Addr) (cdv ct : Value) (us ws : List Value), us.length = n → ws.length = ks.length → bindArgs (PySem.W.fnOf x qual params body scope .none kV doc pm an cdv ct) ⟨us, ks.zip ws⟩ = pure (ps.zip (us ++ ws.reverse))) :
    KBn K fd ps n ks (fun us ws => us ++ ws.reverse) (fun vs zs => vs ++ zs.reverse) := by
  obtain ⟨oc, od, dV, kV, doc, pm, an, cdv, ct, osl, rfl, lk, hcd, hD, hK⟩ := F.ex
  rcases hD with ⟨_, rfl⟩ | ⟨e, _⟩
  · exact ⟨fun s us ws _ l1 l2 => .of_eq (h kV doc pm an cdv ct us ws l1 l2), fun r1 r2 => r1.append r2.reverse⟩
  · exact absurd rfl e
/-- .. all defaults overruled -/
theorem kbD (F : FunD K x qual params body scope dvs kws f fd) (n : Nat) (ks : List Str) (hd : dvs ≠ [])
    (h : ∀ (T : Addr) (kV doc pm : Value) (an : Option Addr) (cdv ct : Value) (us its ws : List Value), us.length = n → its.length = dvs.length → ws.length = ks.length →
      ∃ k, bindArgs (PySem.W.fnOf x qual params body scope (.ref T) kV doc pm an cdv ct) ⟨us, ks.zip ws⟩ = seqItems? (.ref T) >>= k ∧ k (some its.toArray) = pure (ps.zip (us ++ ws.reverse))) :
    KBn K fd ps n ks (fun us ws => us ++ ws.reverse) (fun vs zs => vs ++ zs.reverse) := by
  obtain ⟨its, h2⟩ := F.kbindsD (ps := ps) n ks (fun us _ ws => us ++ ws.reverse) hd (fun r1 _ r3 => r1.append r3.reverse) h
  exact h2
end
end Z

set_option maxHeartbeats 4000000
/-! more steps of reading: makes, methods, loops over a range, wide products -/
namespace Z
open PySem PySem.Spec PyProof.Rows L2
section
variable {K : Frag} {σ : L2.St} {H : Hp} {Q : VK} {v : V} {ta tb te : TE} {t : TA} {sp : Sp} {dvs : List V} {W : WX} {C : Addr} {m : Str} {E : XK}
/-- a class is made of these values -/
def zMk (C : Addr) (sp : Sp) (dvs : List V) (E : XK) (vs : List V) (H : Hp) (Q : VK) : Prop := ∀ x dx, H x = none → H dx = none → dx ≠ x → sp (.ref x :: (vs ++ dvs)) (upd (upd H dx (.own x)) x (.ins C dx [])) (fun v H2 => v = .non ∧ Q (.ref x) H2) E
theorem z_mk (q : t σ H fun vs H1 => zMk C sp dvs (fun cls d H' => W cls d σ H') vs H1 Q) : tMakeW C sp dvs W t σ H Q := q
/-- a method of this value -/
def zMt (C : Addr) (m : Str) (x : V) (H : Hp) (R : Prop) : Prop := ∃ a dx fs, x = .ref a ∧ H a = some (.ins C dx fs) ∧ fs.lookup m = none ∧ R
theorem z_mt (q : ta σ H fun x H1 => zMt C m x H1 (t σ H1 fun vs H2 => sp (x :: (vs ++ dvs)) H2 Q (fun cls d H' => W cls d σ H'))) : tMethW C m sp dvs W ta t σ H Q := q
theorem z_mtR {p : Addr} {a b : Int} {R : Prop} (h : IsR K H p a b) (q : R) (h1 : ¬ m = "top" := by decide +kernel) (h2 : ¬ m = "bottom" := by decide +kernel) : zMt (He.ga K "Ratio") m (.ref p) H R := h.elim fun dx hp => ⟨p, dx, _, rfl, hp, rf_no h1 h2, q⟩
/-- a sign before a Ratio -/
theorem z_ownN {p : Addr} {a b : Int} {u : V → Hp → VK → Prop} (h : IsR K H p a b) (q : sp [.ref p] H Q E) : rOr1 u (rOwn1 (He.ga K "Ratio") sp E) (.ref p) H Q := .inr (h.elim fun dx hp => ⟨p, dx, _, rfl, hp, q⟩)
theorem z_ownI {i : Int} {u : V → Hp → VK → Prop} (q : u (.int i) H Q) : rOr1 u (rOwn1 C sp E) (.int i) H Q := .inl q
/-- numbers of up to 200 bits -/
theorem bits_of {i : Int} (h1 : -1606938044258990275541962092341162602522202993782792835301376 < i) (h2 : i < 1606938044258990275541962092341162602522202993782792835301376) : Bits 200 i := by
  unfold Bits
  have e : (2 : Nat) ^ 200 = 1606938044258990275541962092341162602522202993782792835301376 := by decide
  omega
theorem bits_up {i : Int} {a b : Nat} (h : Bits a i) (hb : a ≤ b) : Bits b i := Nat.lt_of_lt_of_le h (Nat.pow_le_pow_right (by decide) hb)
theorem z_mulW {i j : Int} (h1 : -1606938044258990275541962092341162602522202993782792835301376 < i) (h2 : i < 1606938044258990275541962092341162602522202993782792835301376) (h3 : -1606938044258990275541962092341162602522202993782792835301376 < j) (h4 : j < 1606938044258990275541962092341162602522202993782792835301376) (q : Q (.int (i * j)) H) : zMul (.int i) (.int j) H Q :=
  z_mulB (bits_of h1 h2) (bits_of h3 h4) (by decide) (by decide) (by decide) q
theorem mulW_ok {i j : Int} (h1 : -1606938044258990275541962092341162602522202993782792835301376 < i) (h2 : i < 1606938044258990275541962092341162602522202993782792835301376) (h3 : -1606938044258990275541962092341162602522202993782792835301376 < j) (h4 : j < 1606938044258990275541962092341162602522202993782792835301376) : IntMulOk i j :=
  CMulW.ok (wide_mul (bits_of h1 h2) (bits_of h3 h4) (by decide) (by decide) (by decide))
theorem z_divW {i j : Int} (h : 0 < j) (h2 : j < 1606938044258990275541962092341162602522202993782792835301376) (q : Q (.int (i / j)) H) : zDiv (.int i) (.int j) H Q := z_div h (bits_of (by omega) h2) (by decide) (by decide) q
theorem z_mkR2 {n d : Int} (hd : d ≠ 0) (h1 : -1606938044258990275541962092341162602522202993782792835301376 < d) (h2 : d < 1606938044258990275541962092341162602522202993782792835301376) (k : ∀ p H', Same H H' → IsR K H' p (rt n d) (rb n d) → Q (.ref p) H') : zMk (He.ga K "Ratio") (sp3 (fs_rinit K)) [] E [.int n, .int d] H Q :=
  z_mkR hd (bits_up (bits_of h1 h2) (by decide)) k
theorem z_mkR1 {n : Int} (k : ∀ p H', Same H H' → IsR K H' p n 1 → Q (.ref p) H') : zMk (He.ga K "Ratio") (sp3 (fs_rinit K)) [.int 1] E [.int n] H Q :=
  z_mkR (n := n) (d := 1) (by decide) (bits_up (bits_of (by decide) (by decide)) (by decide)) fun p H' s h => k p H' s (by
    obtain ⟨e1, e2⟩ := rt_low (n := n) (d := 1) (by decide) (Int.gcd_one_right ..)
    rw [e1, e2] at h
    exact h)
/-- isinstance of a Ratio -/
theorem z_isR {p : Addr} {a b : Int} {C2 : Addr} {c : Bool} (I : InsK K (He.ga K "Ratio")) (hk : PySem.W.kitOne K (.ref (He.ga K "Ratio")) (.ref C2) = some c) (h : IsR K H p a b) (q : Q (.bl c) H) : rIsi K [.ref p, .ref C2] H Q := by
  obtain ⟨dx, hp⟩ := h
  exact z_isi (.own C2) (I.ty hp) hk q
/-- a for loop over a range -/
def zRng (g : TG) (tb : TS) (D : Ends) (σ : L2.St) (a b : Int) (H : Hp) : Prop := (-(2 ^ 62) ≤ a ∧ a < 2 ^ 62 ∧ -(2 ^ 62) ≤ b ∧ b < 2 ^ 62) ∧ ∃ I : Int → L2.St → Hp → Prop, I a σ H ∧
  (∀ x σ H, a ≤ x → x < b → I x σ H → g (.int x) σ H fun σ2 H2 => tb { D with nx := I (x + 1), ct := I (x + 1), bk := D.nx } σ2 H2) ∧ ∀ x σ H, a ≤ x → b ≤ x → (a ≤ b → x = b) → I x σ H → D.nx σ H
theorem z_rng {g : TG} {tb : TS} {D : Ends} {a b : Int} (h : zRng g tb D σ a b H) {J : It} (hJ : J = Itr a (b - a).toNat) : ∃ W : Nat → Nat → L2.St → Hp → Prop, (∃ m, W 0 m σ H) ∧ ∀ i m σ H, W i m σ H →
    (J.stop i H ∧ D.nx σ H) ∨ (J.go i H ∧ ∃ N : L2.St → Hp → Prop, (∀ σ' H', N σ' H' → ∃ m', m' < m ∧ W (i + 1) m' σ' H') ∧ ∀ x H', J.yld i H x H' → g x σ H' fun σ2 H2 => tb { D with nx := N, ct := N, bk := D.nx } σ2 H2) := by
  subst hJ
  obtain ⟨hs, I, h0, h1, h2⟩ := h
  refine ⟨fun i m σ H => I (a + i) σ H ∧ i + m = (b - a).toNat, ⟨(b - a).toNat, by simpa using h0, by omega⟩, fun i m σ H w => ?_⟩
  obtain ⟨w, e⟩ := w
  by_cases c : i < (b - a).toNat
  · refine .inr ⟨c, I (a + i + 1), fun σ' H' z => ⟨m - 1, by omega, ?_, by omega⟩, ?_⟩
    · have e2 : a + ((i + 1 : Nat) : Int) = a + i + 1 := by omega
      rw [e2]
      exact z
    · rintro x H' ⟨rfl, rfl⟩
      exact h1 _ _ _ (by omega) (by omega) w
  · exact .inl ⟨by show (b - a).toNat ≤ i; omega, h2 _ _ _ (by omega) (by omega) (by omega) w⟩
def zRg (g : TG) (tb : TS) (D : Ends) (σ : L2.St) (vs : List V) (H1 : Hp) : Prop := ∃ i j : Int, vs = [.int i, .int j] ∧ (-(2 ^ 62) ≤ i ∧ i < 2 ^ 62 ∧ -(2 ^ 62) ≤ j ∧ j < 2 ^ 62) ∧ ∃ W : Nat → Nat → L2.St → Hp → Prop, (∃ m, W 0 m σ H1) ∧ ∀ k m σ H, W k m σ H →
    ((Itr i (j - i).toNat).stop k H ∧ D.nx σ H) ∨ ((Itr i (j - i).toNat).go k H ∧ ∃ N : L2.St → Hp → Prop, (∀ σ' H', N σ' H' → ∃ m', m' < m ∧ W (k + 1) m' σ' H') ∧ ∀ x H', (Itr i (j - i).toNat).yld k H x H' → g x σ H' fun σ2 H2 => tb { D with nx := N, ct := N, bk := D.nx } σ2 H2)
theorem z_for2 {g : TG} {tb : TS} {D : Ends} (q : t σ H fun vs H1 => zRg g tb D σ vs H1) : tFor (iRng2 t) g tb D σ H := q
theorem z_rg {g : TG} {tb : TS} {D : Ends} {a b : Int} (h : zRng g tb D σ a b H) : zRg g tb D σ [.int a, .int b] H := ⟨a, b, rfl, h.1, z_rng h rfl⟩
/-- an exception with two fields is made -/
def zMkO (C : Addr) (sp : Sp) (dvs : List V) (vs : List V) (H1 : Hp) (Q : XK) : Prop := vs.length ≤ 1000 ∧ ∀ a, H1 a = none → sp (.ref a :: (vs ++ dvs)) (upd H1 a (exo a C none)) (fun v H2 => v = .non ∧ ∃ (d : Addr) (fs : List (Str × V)), H2 a = some (exo a C (some d)) ∧ H2 d = some (exd d fs) ∧ H1 d = none ∧ Q (.ref C) (some d) (upd (del H2 a) d (.xd fs))) (fun _ _ _ => False)
theorem z_mko {Q : XK} (q : t σ H fun vs H1 => zMkO C sp dvs vs H1 Q) : tMkO C sp dvs t σ H Q := q
theorem z_exo2 {c f g : Str} {u v : V} {Q : XK} (k : ∀ (d : Addr) (H' : Hp), Same H H' → H' d = some (.xd [(g, v), (f, u)]) → Q (.ref (He.ga K c)) (some d) H') : zMkO (He.ga K c) (sp3 (fs_ex2 K c f g)) [] [u, v] H Q :=
  ⟨by show 2 ≤ 1000; decide, fun a ha => ⟨_, _, _, rfl, a, H, rfl, rfl, ha, fun d H' e1 e2 hd s => ⟨rfl, d, _, e1, e2, hd, k d _ s upd_same⟩⟩⟩
theorem z_exo1 {c f : Str} {u : V} {Q : XK} (k : ∀ (d : Addr) (H' : Hp), Same H H' → H' d = some (.xd [(f, u)]) → Q (.ref (He.ga K c)) (some d) H') : zMkO (He.ga K c) (sp2 (fs_ex1 K c f)) [] [u] H Q :=
  ⟨by show 1 ≤ 1000; decide, fun a ha => ⟨_, _, rfl, a, H, rfl, rfl, ha, fun d H' e1 e2 hd s => ⟨rfl, d, _, e1, e2, hd, k d _ s upd_same⟩⟩⟩
end
end Z
namespace Z
open PySem PySem.Spec PyProof.Rows L2
section
variable {K : Frag} {σ : L2.St} {H : Hp} {Q : VK} {ta : TE} {t : TA} {g : TG}
theorem z_slL {p : Addr} {xs : List V} {lo hi : Option Int} (h : SqL K H p xs) (q : ∀ r, H r = none → Same H (upd H r (.lst (cutV xs lo hi))) → SqL K (upd H r (.lst (cutV xs lo hi))) r (cutV xs lo hi) → Q (.ref r) (upd H r (.lst (cutV xs lo hi)))) : rSlL K (.ref p) lo hi H Q :=
  ⟨p, xs, rfl, h, fun r hr => q r hr (Same.new hr) (SqL.of upd_same)⟩
/-- a tuple, a list just made -/
theorem z_newT {xs : List V} (hn : xs.length ≤ 16777216) (k : ∀ p, H p = none → Same H (upd H p (.tup xs)) → upd H p (.tup xs) p = some (.tup xs) → Q (.ref p) (upd H p (.tup xs))) : xs.length ≤ sizeLine ∧ ∀ p, H p = none → Q (.ref p) (upd H p (.tup xs)) :=
  z_new (t := .tup) hn k
theorem z_newL {xs : List V} (hn : xs.length ≤ 16777216) (k : ∀ p, H p = none → Same H (upd H p (.lst xs)) → SqL K (upd H p (.lst xs)) p xs → Q (.ref p) (upd H p (.lst xs))) : xs.length ≤ sizeLine ∧ ∀ p, H p = none → Q (.ref p) (upd H p (.lst xs)) :=
  z_new (t := .lst) hn fun p h1 h2 h3 => k p h1 h2 (SqL.of h3)
theorem z_gn {i : Nat} {v : V} {D : L2.St → Hp → Prop} (q : D (σ.set i (some v)) H) : gName i v σ H D := q
theorem z_gcons {u : TGs} {v : V} {vs : List V} {D : L2.St → Hp → Prop} (q : g v σ H fun σ' H' => u vs σ' H' D) : gCons g u (v :: vs) σ H D := ⟨v, vs, rfl, q⟩
theorem z_gnil {D : L2.St → Hp → Prop} (q : D σ H) : gNil [] σ H D := ⟨rfl, q⟩
/-- a tuple taken apart -/
theorem z_gtup {D : L2.St → Hp → Prop} {p : Addr} {xs : List V} {n : Nat} {ts : TGs} (h : H p = some (.tup xs)) (hl : xs.length = n) (q : ts xs σ H D) : gTup K n ts (.ref p) σ H D := ⟨p, xs, rfl, SqT.of h, hl, q⟩
/-- two ends: a tuple of two tuples -/
def IsE (H : Hp) (e : Addr) (lt lb ht hb : Int) : Prop := ∃ a b, H e = some (.tup [.ref a, .ref b]) ∧ H a = some (.tup [.int lt, .int lb]) ∧ H b = some (.tup [.int ht, .int hb])
theorem IsE.mono {H' : Hp} {e : Addr} {lt lb ht hb : Int} (s : Same H H') (h : IsE H e lt lb ht hb) : IsE H' e lt lb ht hb := by
  obtain ⟨a, b, h1, h2, h3⟩ := h
  exact ⟨a, b, s _ _ h1, s _ _ h2, s _ _ h3⟩
def zNewT (xs : List V) (H : Hp) (Q : VK) : Prop := xs.length ≤ sizeLine ∧ ∀ p, H p = none → Q (.ref p) (upd H p (.tup xs))
def zNewL (xs : List V) (H : Hp) (Q : VK) : Prop := xs.length ≤ sizeLine ∧ ∀ p, H p = none → Q (.ref p) (upd H p (.lst xs))
theorem z_tupN (q : t σ H fun xs H1 => zNewT xs H1 Q) : tTup t σ H Q := q
theorem z_lstN (q : t σ H fun xs H1 => zNewL xs H1 Q) : tLst t σ H Q := q
theorem z_asgG {te : TE} {D : Ends} (q : te σ H fun x H1 => g x σ H1 D.nx) : tAsg te g D σ H := q
/-- the new heap under its own name -/
theorem z_nt {xs : List V} (hn : xs.length ≤ 16777216) (k : ∀ p H', H p = none → Same H H' → H' p = some (.tup xs) → Q (.ref p) H') : zNewT xs H Q :=
  z_newT hn fun p h1 h2 h3 => k p _ h1 h2 h3
theorem z_nl {xs : List V} (hn : xs.length ≤ 16777216) (k : ∀ p H', H p = none → Same H H' → SqL K H' p xs → Q (.ref p) H') : zNewL xs H Q :=
  z_newL hn fun p h1 h2 h3 => k p _ h1 h2 h3
end
end Z

set_option maxHeartbeats 4000000
/-! lists just made, powers, keyword calls, caught exceptions, sizes of reduced parts -/
namespace Z
open PySem PySem.Spec PyProof.Rows L2
section
variable {K : Frag} {σ : L2.St} {H : Hp} {Q : VK} {te : TE} {t tk : TA} {sp : Sp} {E : XK}
theorem z_nlR {xs : List V} (hn : xs.length ≤ 16777216) (k : ∀ p H', H p = none → Same H H' → H' p = some (.lst xs) → Q (.ref p) H') : zNewL xs H Q :=
  z_new (t := .lst) hn fun p h1 h2 h3 => k p _ h1 h2 h3
theorem z_p6 (q : Q (.int 1000000) H) : zPow (.int 10) (.int 6) H Q := z_pow ⟨by decide, by decide, by decide⟩ q
theorem z_p12 (q : Q (.int 1000000000000) H) : zPow (.int 10) (.int 12) H Q := z_pow ⟨by decide, by decide, by decide⟩ q
theorem z_p13 (q : Q (.int 10000000000000) H) : zPow (.int 10) (.int 13) H Q := z_pow ⟨by decide, by decide, by decide⟩ q
theorem z_calln {n m : Nat} {gV : List V → List V → List V} (q : t σ H fun vs H1 => tk σ H1 fun zs H2 => vs.length = n ∧ zs.length = m ∧ sp (gV vs zs) H2 Q E) : tCallN n m sp gV E t tk σ H Q := q
/-- a field of the caught exception -/
def zXf (a : Addr) (cls : Value) (d : Option Addr) (C : Addr) (f : Str) (x : V) (H : Hp) (Q : VK) : Prop := x = .ref a ∧ cls = .ref C ∧ ∃ (dd : Addr) (fs : List (Str × V)) (v : V), d = some dd ∧ H dd = some (.xd fs) ∧ fs.lookup f = some v ∧ Q v H
theorem z_xfS {a : Addr} {cls : Value} {d : Option Addr} {C : Addr} {f : Str} (q : te σ H fun x H1 => zXf a cls d C f x H1 Q) : tXf a cls d C f te σ H Q := q
theorem z_xf {a d C : Addr} {f : Str} {fs : List (Str × V)} {v : V} (h : H d = some (.xd fs)) (l : fs.lookup f = some v) (q : Q v H) : zXf a (.ref C) (some d) C f (.ref a) H Q := ⟨rfl, rfl, d, fs, v, rfl, h, l, q⟩
theorem look2a {f g : Str} {u v : V} : ([(g, v), (f, u)] : List (Str × V)).lookup g = some v := by rw [lookup_put, if_pos rfl]
theorem look2b {f g : Str} {u v : V} (h : ¬ f = g := by decide +kernel) : ([(g, v), (f, u)] : List (Str × V)).lookup f = some u := by rw [lookup_put, if_neg h, lookup_put, if_pos rfl]
/-- isinstance of the caught exception -/
theorem z_isX {a d D C : Addr} {fs : List (Str × V)} {b : Bool} (h : H d = some (.xd fs)) (hk : PySem.W.kitOne K (.ref D) (.ref C) = some b) (q : Q (.bl b) H) :
    (.ref D : Value) = .ref D ∧ (∀ dd, some d = some dd → ∃ fs, H dd = some (.xd fs)) ∧ rIsX K D a [.ref a, .ref C] H Q :=
  ⟨rfl, fun dd e => by cases e; exact ⟨fs, h⟩, _, _, b, rfl, .own C, hk, q⟩
/-- a caught exception goes into the clause -/
theorem z_as {cls c : Value} {i : Nat} {ts : Addr → Value → Option Addr → TS} {Wout : WX} {D : Ends} {d : Option Addr} (hk : PySem.W.exmOne K cls c = some true)
    (q : ∀ a, H a = none → ts a cls d { nx := fun σ' H' => D.nx (σ'.set i none) H', rt := D.rt, bk := fun σ' H' => D.bk (σ'.set i none) H', ct := fun σ' H' => D.ct (σ'.set i none) H' } (σ.set i (some (.ref a))) H) : wAs K c i ts Wout D cls d σ H :=
  ⟨true, hk, fun _ => q, fun z => nomatch z⟩
/-! sizes -/
theorem div_bd {n g b : Int} (hg : 1 ≤ g) (h1 : -b ≤ n) (h2 : n ≤ b) (hb : 0 ≤ b) : -b ≤ n / g ∧ n / g ≤ b := by
  have e1 := Int.mul_ediv_self_le (x := n) (k := g) (by omega)
  have e2 := Int.lt_mul_ediv_self_add (x := n) (k := g) (by omega)
  constructor
  · by_cases q : n / g ≥ 0
    · omega
    · have : n ≤ n / g := by
        by_cases p : 0 ≤ n
        · have := Int.ediv_nonneg p (show 0 ≤ g by omega)
          omega
        · have k : n / g * g ≤ n / g * 1 := Int.mul_le_mul_of_nonpos_left (by omega) hg
          have k2 : (n / g + 1) * g > n := by
            have : (n / g + 1) * g = n / g * g + 1 * g := Int.add_mul ..
            have c : g * (n / g) = n / g * g := Int.mul_comm ..
            omega
          by_cases r : n ≤ n / g
          · exact r
          · have k3 : (n / g + 1) * g ≤ (n / g + 1) * 1 := Int.mul_le_mul_of_nonpos_left (by omega) hg
            omega
      omega
  · by_cases p : 0 ≤ n
    · have := Int.ediv_le_self g p
      omega
    · have := Int.ediv_neg_of_neg_of_pos (a := n) (b := g) (by omega) (by omega)
      omega
theorem rt_size {n d b c : Int} (hd : 0 < d) (h1 : -b ≤ n) (h2 : n ≤ b) (hb : 0 ≤ b) (h3 : d ≤ c) : -b ≤ rt n d ∧ rt n d ≤ b ∧ rb n d ≤ c := by
  obtain ⟨e1, e2⟩ := rt_pos (n := n) hd
  have g0 : 0 < Int.gcd n d := Int.gcd_pos_of_ne_zero_right n (by omega)
  obtain ⟨k1, k2⟩ := div_bd (n := n) (g := (Int.gcd n d : Nat)) (by omega) h1 h2 hb
  rw [e1, e2]
  have := Int.ediv_le_self (a := d) (Int.gcd n d : Nat) (by omega)
  omega
end
/-- indexing, the fragment under its own name -/
theorem ix_seqK {X : Cx} {K : Frag} (h : X.K = K) : IxR X (rIx K) := by subst h; exact ix_seq
/-- the law's promise -/
def fs_law (K : Frag) : F1 := fun a H Q _ => ∃ (p : Addr) (ns : List Int), a = .ref p ∧ SqL K H p (ns.map V.int) ∧ ns.length ≤ 63 ∧ ∀ H', Q (.bl true) H'
theorem law_quiet {P : Program} {w : World} {K : Frag} {mg : Str → Option Value} {base : Heap} {j k : Nat} {f : Addr} {fd : FuncData} {ps : List Str} (F : FnOk P w K mg base (L2N.CX P w) j f fd ps (sp1 (fs_law K))) (h : j ≤ k) : FnOk P w K mg base L2.CX0 k f fd ps (sp1 (fs_law K)) :=
  (fn_quiet F fun _ _ _ _ h => h).mono h
theorem cut63 {ns : List Int} (h : ns.length ≤ 63) : cutV (ns.map V.int) none (some 63) = ns.map V.int := by
  have hl : (ns.map V.int).length ≤ 63 := by rw [List.length_map]; exact h
  generalize ns.map V.int = xs at *
  have e : HT.sIx xs.length xs.length (some 63) = xs.length := by
    have q := HT.sIx_nat xs.length xs.length 63
    rw [show ((63 : Nat) : Int) = 63 from rfl] at q
    rw [q]
    omega
  unfold cutV
  rw [e, HT.sIx_none, Nat.sub_zero, List.drop_zero, List.take_length]
section
variable {σ : L2.St} {H : Hp} {Q : VK} {te : TE}
theorem z_sl63 {K : Frag} {p : Addr} {ns : List Int} {i : Nat} (hs : σ[i]? = some (some (.ref p))) (h : SqL K H p (ns.map V.int)) (hl : ns.length ≤ 63) (q : ∀ r H', Same H H' → SqL K H' r (ns.map V.int) → Q (.ref r) H') : tSl (rSlL K) (tVar i) tNoPart (tPart (tC (.int 63))) σ H Q := by
  have e := cut63 hl
  refine ⟨_, hs, 63, rfl, p, _, rfl, h, fun r hr => ?_⟩
  rw [e]
  exact q r _ (Same.new hr) (SqL.of upd_same)
end
end Z

set_option maxHeartbeats 4000000
/-! lists: joined, repeated, stored into, made anew by comprehensions, walked by loops; fields as targets -/
namespace Z
open PySem PySem.Spec PyProof.Rows L2
section
variable {X : Cx}
/-- o.f as one of several targets -/
def gFld (K : Frag) (ta : TE) (f : Str) : TG := fun v σ H Q => ta σ H fun x H1 => ∃ a C dx fs, x = .ref a ∧ H1 a = some (.ins C dx fs) ∧ Cls K C ∧ NoAttr K C f ∧ fs.length < 1000 ∧ Q σ (upd H1 a (.ins C dx (putF f v fs)))
theorem pg_att {o : Expr} {f : Str} {ta : TE} {pos : Pos} (ha : PE X o ta) : PG X (.Attribute o f pos) (gFld X.K ta f) := by
  refine ⟨fun pins s σ H v u Q I r h => ?_⟩
  refine PySem.W.kas_attr (thn (ha.run pins s σ H _ I h) fun ov s2 ⟨x, H2, I2, rx, a, C, dx, fs, ex, ea, c, n, l, q2⟩ => ?_)
  subst ex
  obtain rfl : ov = Value.ref a := rx
  exact setattr_ok I2 ea c n l r fun s3 I3 => ⟨σ, _, I3, q2⟩
def zCat : R2 := rOr zAdd rCat
def zRep : R2 := rOr zMul rRep
theorem o_cat : OpR X (binaryOp .Add) zCat := op_or2 o_add op_cat
theorem o_rep : OpR X (binaryOp .Mult) zRep := op_or2 o_mul op_rep
end
section
variable {K : Frag} {σ : L2.St} {H : Hp} {Q : VK} {a b : Addr} {xs ys : List V}
theorem lkA {f : Str} {v : V} {r : List (Str × V)} : ((f, v) :: r).lookup f = some v := by rw [lookup_put, if_pos rfl]
theorem lkB {f g : Str} {u v : V} {r : List (Str × V)} (h : ¬ f = g) (l : r.lookup f = some v) : ((g, u) :: r).lookup f = some v := by rw [lookup_put, if_neg h]; exact l
theorem pfA {f : Str} {u v : V} {r : List (Str × V)} : putF f v ((f, u) :: r) = (f, v) :: r := by
  show (if f = f then _ else _) = _
  rw [if_pos rfl]
theorem z_catI {i j : Int} (q : Q (.int (i + j)) H) : zCat (.int i) (.int j) H Q := .inl (z_add q)
theorem z_cat (h1 : H a = some (.lst xs)) (h2 : H b = some (.lst ys)) (hn : xs.length + ys.length ≤ 16777216) (k : ∀ p H', H p = none → Same H H' → H' p = some (.lst (xs ++ ys)) → Q (.ref p) H') : zCat (.ref a) (.ref b) H Q :=
  .inr ⟨a, b, xs, ys, rfl, rfl, h1, h2, by rw [sizeLine_eq]; exact hn, fun p hp => k p _ hp (Same.new hp) upd_same⟩
theorem z_repL {i j : Int} (h1 : -18446744073709551616 < i) (h2 : i < 18446744073709551616) (q : Q (.int (i * j)) H) : zRep (.int i) (.int j) H Q := .inl (z_mulL h1 h2 q)
theorem z_repR {i j : Int} (h1 : -18446744073709551616 < j) (h2 : j < 18446744073709551616) (q : Q (.int (i * j)) H) : zRep (.int i) (.int j) H Q := .inl (z_mulR h1 h2 q)
/-- [x] * n -/
theorem z_rep1 {x : V} {n : Int} (h : H a = some (.lst [x])) (h1 : -9223372036854775808 ≤ n) (h2 : n ≤ 16777216) (k : ∀ p H', H p = none → Same H H' → H' p = some (.lst (List.replicate n.toNat x)) → Q (.ref p) H') : zRep (.ref a) (.int n) H Q := by
  refine .inr ⟨a, n, _, rfl, rfl, h, by omega, by omega, ?_, fun p hp => ?_⟩
  · rw [sizeLine_eq]
    show 1 * n.toNat ≤ 16777216
    omega
  · have e : (List.replicate n.toNat [x]).flatten = List.replicate n.toNat x := by simp
    rw [e]
    exact k p _ hp (Same.new hp) upd_same
/-- len, list(), tuple(), any() of a list -/
theorem z_lenLst (h : H a = some (.lst xs)) (q : Q (.int (xs.length : Int)) H) : rLen1 K [.ref a] H Q := z_lenL (SqL.of h) q
def rList1 (K : Frag) : List V → Hp → VK → Prop := fun vs H Q => ∃ p ys, vs = [.ref p] ∧ (SqL K H p ys ∨ SqT K H p ys) ∧ ∀ l, H l = none → Q (.ref l) (upd H l (.lst ys))
theorem z_listL (h : SqL K H a xs) (k : ∀ p H', H p = none → Same H H' → H' p = some (.lst xs) → Q (.ref p) H') : rList1 K [.ref a] H Q := ⟨a, xs, rfl, .inl h, fun p hp => k p _ hp (Same.new hp) upd_same⟩
theorem z_listT (h : H a = some (.tup xs)) (k : ∀ p H', H p = none → Same H H' → H' p = some (.lst xs) → Q (.ref p) H') : rList1 K [.ref a] H Q := ⟨a, xs, rfl, .inr (SqT.of h), fun p hp => k p _ hp (Same.new hp) upd_same⟩
theorem o_list1 {X : Cx} : CallR X (.type "list") (rList1 X.K) := call_list_of
def rTup1 (K : Frag) : List V → Hp → VK → Prop := fun xs H Q => ∃ p ys, xs = [.ref p] ∧ ((SqL K H p ys ∧ ∀ l, H l = none → Q (.ref l) (upd H l (.tup ys))) ∨ (SqT K H p ys ∧ Q (.ref p) H))
theorem z_anyB {bs : List Bool} (h : H a = some (.lst (bs.map V.bl))) (q : Q (.bl (bs.any id)) H) : rAny K [.ref a] H Q := ⟨a, bs, rfl, SqL.of h, q⟩
theorem z_allB {bs : List Bool} (h : H a = some (.lst (bs.map V.bl))) (q : Q (.bl (bs.all id)) H) : rAll K [.ref a] H Q := ⟨a, bs, rfl, SqL.of h, q⟩
theorem z_minL {ns : List Int} (h : H a = some (.lst (ns.map V.int))) (h0 : 0 < ns.length) (q : ∀ m, m ∈ ns → (∀ y, y ∈ ns → m ≤ y) → Q (.int m) H) : rMin K [.ref a] H Q := ⟨a, ns, rfl, SqL.of h, h0, q⟩
/-- a slice of a list -/
theorem z_sll {lo hi : Option Int} (h : H a = some (.lst xs)) (k : ∀ p H', H p = none → Same H H' → H' p = some (.lst (cutV xs lo hi)) → Q (.ref p) H') : rSlL K (.ref a) lo hi H Q := ⟨a, xs, rfl, SqL.of h, fun p hp => k p _ hp (Same.new hp) upd_same⟩
theorem z_tsl {r : V → Option Int → Option Int → Hp → VK → Prop} {te : TE} {tl th : TO} (q : te σ H fun x H1 => tl σ H1 fun l H2 => th σ H2 fun u H3 => r x l u H3 Q) : tSl r te tl th σ H Q := q
theorem z_np {QO : Option Int → Hp → Prop} (q : QO none H) : tNoPart σ H QO := q
theorem z_pt {te : TE} {QO : Option Int → Hp → Prop} (q : te σ H fun x H1 => ∃ i, x = .int i ∧ QO (some i) H1) : tPart te σ H QO := q
theorem z_pti {i : Int} {P : Int → Prop} (q : P i) : ∃ j, V.int i = .int j ∧ P j := ⟨i, rfl, q⟩
theorem cut_hi {n : Nat} {xs : List V} : cutV xs none (some (n : Int)) = xs.take n := by
  unfold cutV
  rw [HT.sIx_nat, HT.sIx_none, Nat.sub_zero, List.drop_zero]
  by_cases h : n ≤ xs.length
  · rw [Nat.min_eq_left h]
  · rw [Nat.min_eq_right (by omega), List.take_length, List.take_of_length_le (by omega)]
theorem cut_lo {n : Nat} {xs : List V} : cutV xs (some (n : Int)) none = xs.drop n := by
  unfold cutV
  rw [HT.sIx_nat, HT.sIx_none]
  by_cases h : n ≤ xs.length
  · rw [Nat.min_eq_left h, List.take_of_length_le (by rw [List.length_drop]; omega)]
  · rw [Nat.min_eq_right (by omega), Nat.sub_self, List.take_zero, List.drop_eq_nil_of_le (by omega)]
/-- a place in a list of numbers -/
theorem at_int {ns : List Int} {k : Int} {v : Int} (h0 : 0 ≤ k) (h : ns[k.toNat]? = some v) : atI (ns.map V.int) k = some (.int v) := by
  obtain ⟨n, rfl⟩ := Int.eq_ofNat_of_zero_le h0
  refine atI_nat ?_
  rw [List.getElem?_map]
  have : ns[n]? = some v := h
  rw [this]
  rfl
end

/-! ### comprehensions -/
section
variable {K : Frag} {σ : L2.St} {H1 : Hp} {Q : VK} {te : TE} {i j : Nat} {t : TA}
/-- what a comprehension's body is to give: the new list at D within -/
def zLc (J : It) (g : TG) (tt : TT) (te : TE) (vs : List Nat) (σ : L2.St) (H1 : Hp) (Q : VK) : Prop := ∀ D, H1 D = none → ∃ W : Nat → Nat → Hp → Prop, (∃ m, W 0 m (upd H1 D (.lst []))) ∧ ∀ i m H, W i m H →
  (J.stop i H ∧ Q (.ref D) H) ∨ (J.go i H ∧ ∃ Nx : Hp → Prop, (∀ H', Nx H' → ∃ m', m' < m ∧ W (i + 1) m' H') ∧ ∀ x H', J.yld i H x H' → g x (wipe σ vs) H' fun σ2 H2 => wipe σ2 vs = wipe σ vs ∧ tt σ2 H2 fun b H3 =>
    if b = true then te σ2 H3 fun y H4 => ∃ acc, H4 D = some (.lst acc) ∧ acc.length < sizeLine ∧ Nx (upd H4 D (.lst (acc ++ [y]))) else Nx H3)
/-- each turn gives f of its number, all that stood stands -/
theorem z_lcF {J : It} {n : Nat} {G : Hp → Prop} {Y : Nat → Hp → V → Hp → Prop} {g : TG} {vs : List Nat} (w : Walk J n G Y) (f : Nat → V) (hn : n ≤ 16777216) (hG : ∀ H', Same H1 H' → G H')
    (hs : ∀ k x H H' (N : VK), k < n → Same H1 H → Y k H x H' → (∀ H4, Same H H4 → N (f k) H4) → g x (wipe σ vs) H' fun σ2 H2 => wipe σ2 vs = wipe σ vs ∧ te σ2 H2 N)
    (k : ∀ D H', H1 D = none → Same H1 H' → H' D = some (.lst ((List.range n).map f)) → Q (.ref D) H') : zLc J g tYes te vs σ H1 Q := fun D hD => by
  refine lc_it w (fun i H => Same H1 H ∧ H D = some (.lst ((List.range i).map f))) ⟨Same.new hD, upd_same⟩ (fun i H hi p => hG H p.1) (fun i x H H' hi p y => ?_) (fun H p => k D H hD p.1 p.2)
  refine hs i x H H' _ hi p.1 y (fun H4 s4 => ?_)
  refine ⟨_, s4 _ _ p.2, ?_, ?_, ?_⟩
  · rw [List.length_map, List.length_range, sizeLine_eq]
    omega
  · intro b o hb
    rw [upd_ne (ne_of_none hb hD)]
    exact s4 _ _ (p.1 _ _ hb)
  · rw [upd_same, List.range_succ, List.map_append]
    rfl
def zLcL (K : Frag) (g : TG) (tt : TT) (te : TE) (vs : List Nat) (σ : L2.St) (x : V) (H1 : Hp) (Q : VK) : Prop := ∃ a, x = .ref a ∧ (∃ xs, SqL K H1 a xs) ∧ zLc (Itl K a) g tt te vs σ H1 Q
theorem z_lcS {g : TG} {tt : TT} {t : TE} {vs : List Nat} (q : t σ H1 fun x H2 => zLcL K g tt te vs σ x H2 Q) : tLc (iList K t) g tt te vs σ H1 Q := q
/-- over a list of numbers: each number's f -/
theorem z_lcI {a : Addr} {ns : List Int} (f : Int → V) {vs : List Nat} (h : H1 a = some (.lst (ns.map V.int))) (hn : ns.length ≤ 16777216)
    (hs : ∀ n H (N : VK), n ∈ ns → Same H1 H → (∀ H4, Same H H4 → N (f n) H4) → wipe ((wipe σ vs).set i (some (.int n))) vs = wipe σ vs ∧ te ((wipe σ vs).set i (some (.int n))) H N)
    (k : ∀ D H', H1 D = none → Same H1 H' → H' D = some (.lst (ns.map f)) → Q (.ref D) H') : zLcL K (gName i) tYes te vs σ (.ref a) H1 Q := by
  refine ⟨a, rfl, ⟨_, SqL.of h⟩, ?_⟩
  have e : (List.range (ns.map V.int).length).map (fun k => f (ns.getD k 0)) = ns.map f := by
    refine List.ext_getElem (by simp) (fun k h1 h2 => ?_)
    have : k < ns.length := by simpa using h2
    simp [List.getD_eq_getElem?_getD, this]
  refine z_lcF (walk_list (K := K) (a := a) (xs := ns.map V.int)) (fun k => f (ns.getD k 0)) (by simpa using hn) (fun H' s => SqL.of (s _ _ h)) (fun k x H H' N hk s y c => ?_) (fun D H' hD s hl => k D H' hD s (e ▸ hl))
  obtain ⟨rfl, hx⟩ := y
  have hk' : k < ns.length := by simpa using hk
  rw [List.getElem?_map, List.getElem?_eq_getElem hk'] at hx
  have hx' : V.int ns[k] = x := Option.some.inj hx
  subst hx'
  have e2 : ns.getD k 0 = ns[k] := by simp [List.getD_eq_getElem?_getD, hk']
  rw [e2] at c
  exact hs _ H' N (List.getElem_mem hk') s c
/-- over a range -/
def zLcR (g : TG) (tt : TT) (te : TE) (vs : List Nat) (σ : L2.St) (xs : List V) (H1 : Hp) (Q : VK) : Prop := ∃ j : Int, xs = [.int j] ∧ -(2 ^ 62) ≤ j ∧ j < 2 ^ 62 ∧ zLc (Itr 0 j.toNat) g tt te vs σ H1 Q
theorem z_lcRS {g : TG} {tt : TT} {t : TA} {vs : List Nat} (q : t σ H1 fun xs H2 => zLcR g tt te vs σ xs H2 Q) : tLc (iRng1 t) g tt te vs σ H1 Q := q
theorem z_lcR {n : Int} (f : Nat → V) {vs : List Nat} (h1 : -4611686018427387904 ≤ n) (h2 : n ≤ 16777216)
    (hs : ∀ (k : Nat) H (N : VK), k < n.toNat → Same H1 H → (∀ H4, Same H H4 → N (f k) H4) → wipe ((wipe σ vs).set i (some (.int k))) vs = wipe σ vs ∧ te ((wipe σ vs).set i (some (.int k))) H N)
    (k : ∀ D H', H1 D = none → Same H1 H' → H' D = some (.lst ((List.range n.toNat).map f)) → Q (.ref D) H') : zLcR (gName i) tYes te vs σ [.int n] H1 Q := by
  refine ⟨n, rfl, by omega, by omega, ?_⟩
  refine z_lcF (walk_range (lo := 0) (n := n.toNat)) f (by omega) (fun _ _ => trivial) (fun k x H H' N hk s y c => ?_) k
  obtain ⟨rfl, rfl⟩ := y
  have e : (0 : Int) + (k : Int) = k := Int.zero_add _
  dsimp only
  rw [e]
  exact hs k H' N hk s c
/-- over two lists of numbers at once -/
def zLcZ (K : Frag) (g : TG) (tt : TT) (te : TE) (vs : List Nat) (σ : L2.St) (xs : List V) (H1 : Hp) (Q : VK) : Prop := ∃ a b ys zs, xs = [.ref a, .ref b] ∧ SqL K H1 a ys ∧ SqL K H1 b zs ∧ zLc (Itz K a b) g tt te vs σ H1 Q
theorem z_lcZS {g : TG} {tt : TT} {t : TA} {vs : List Nat} (q : t σ H1 fun xs H2 => zLcZ K g tt te vs σ xs H2 Q) : tLc (iZip K t) g tt te vs σ H1 Q := q
theorem z_lcZ {a b : Addr} {ns ms : List Int} (f : Int → Int → V) {vs : List Nat} (h1 : H1 a = some (.lst (ns.map V.int))) (h2 : H1 b = some (.lst (ms.map V.int))) (hn : ns.length = ms.length) (hm : ns.length ≤ 16777216)
    (hs : ∀ n m H (N : VK), Same H1 H → (∀ H4, Same H H4 → N (f n m) H4) → wipe (((wipe σ vs).set i (some (.int n))).set j (some (.int m))) vs = wipe σ vs ∧ te (((wipe σ vs).set i (some (.int n))).set j (some (.int m))) H N)
    (k : ∀ D H', H1 D = none → Same H1 H' → H' D = some (.lst (List.zipWith f ns ms)) → Q (.ref D) H') : zLcZ K (gTup K 2 (gCons (gName i) (gCons (gName j) gNil))) tYes te vs σ [.ref a, .ref b] H1 Q := by
  refine ⟨a, b, _, _, rfl, SqL.of h1, SqL.of h2, ?_⟩
  have e : (List.range ns.length).map (fun k => f (ns.getD k 0) (ms.getD k 0)) = List.zipWith f ns ms := by
    refine List.ext_getElem (by simp [hn]) (fun k h1 h2 => ?_)
    have p1 : k < ns.length := by simpa using h1
    have p2 : k < ms.length := by omega
    simp [List.getD_eq_getElem?_getD, p1, p2]
  refine z_lcF (walk_zip (K := K) (a := a) (b := b) (xs := ns.map V.int) (ys := ms.map V.int) (n := ns.length) (by simp; omega)) (fun k => f (ns.getD k 0) (ms.getD k 0)) hm (fun H' s => ⟨SqL.of (s _ _ h1), SqL.of (s _ _ h2)⟩) (fun k x H H' N hk s y c => ?_) (fun D H' hD s hl => k D H' hD s (e ▸ hl))
  obtain ⟨T, u, v, rfl, hT, rfl, hu, hv⟩ := y
  have hk2 : k < ms.length := by omega
  dsimp only at hu hv
  rw [List.getElem?_map, List.getElem?_eq_getElem hk] at hu
  rw [List.getElem?_map, List.getElem?_eq_getElem hk2] at hv
  have hu' : V.int ns[k] = u := Option.some.inj hu
  have hv' : V.int ms[k] = v := Option.some.inj hv
  subst hu' hv'
  have e1 : ns.getD k 0 = ns[k] := by simp [List.getD_eq_getElem?_getD, hk]
  have e2 : ms.getD k 0 = ms[k] := by simp [List.getD_eq_getElem?_getD, hk2]
  rw [e1, e2] at c
  obtain ⟨z1, z2⟩ := hs ns[k] ms[k] (upd H T (.tup [.int ns[k], .int ms[k]])) N (s.trans (Same.new hT)) (fun H4 s4 => c H4 ((Same.new hT).trans s4))
  exact z_gtup upd_same rfl ⟨_, _, rfl, _, _, rfl, rfl, z1, z2⟩
/-- a loop over a list of numbers: I by the turn -/
def zFoL (K : Frag) (g : TG) (tb : TS) (D : Ends) (σ : L2.St) (x : V) (H1 : Hp) : Prop := ∃ a, x = .ref a ∧ (∃ xs, SqL K H1 a xs) ∧ ∃ W : Nat → Nat → L2.St → Hp → Prop, (∃ m, W 0 m σ H1) ∧ ∀ k m σ H, W k m σ H →
    ((Itl K a).stop k H ∧ D.nx σ H) ∨ ((Itl K a).go k H ∧ ∃ N : L2.St → Hp → Prop, (∀ σ' H', N σ' H' → ∃ m', m' < m ∧ W (k + 1) m' σ' H') ∧ ∀ x H', (Itl K a).yld k H x H' → g x σ H' fun σ2 H2 => tb { D with nx := N, ct := N, bk := D.nx } σ2 H2)
theorem z_foS {g : TG} {tb : TS} {D : Ends} {t : TE} (q : t σ H1 fun x H2 => zFoL K g tb D σ x H2) : tFor (iList K t) g tb D σ H1 := q
theorem z_foV {g : TG} {tb : TS} {D : Ends} {a : Addr} {xs : List V} (h : H1 a = some (.lst xs)) (I : Nat → L2.St → Hp → Prop) (h0 : I 0 σ H1) (hl : ∀ k σ H, I k σ H → H a = some (.lst xs))
    (hs : ∀ k x σ H, xs[k]? = some x → I k σ H → g x σ H fun σ2 H2 => tb { D with nx := I (k + 1), ct := I (k + 1), bk := D.nx } σ2 H2) (hd : ∀ σ H, I xs.length σ H → D.nx σ H) : zFoL K g tb D σ (.ref a) H1 :=
  ⟨a, rfl, ⟨_, SqL.of h⟩, for_it (walk_list (K := K) (a := a) (xs := xs)) I h0 (fun k σ H _ p => SqL.of (hl k σ H p)) (fun k x σ H H' _ p y => by
    obtain ⟨rfl, hx⟩ := y
    exact hs k x σ H' hx p) hd⟩
/-- a loop over range(n): I by the turn -/
def zFoR (g : TG) (tb : TS) (D : Ends) (σ : L2.St) (vs : List V) (H1 : Hp) : Prop := ∃ j : Int, vs = [.int j] ∧ -(2 ^ 62) ≤ j ∧ j < 2 ^ 62 ∧ ∃ W : Nat → Nat → L2.St → Hp → Prop, (∃ m, W 0 m σ H1) ∧ ∀ k m σ H, W k m σ H →
    ((Itr 0 j.toNat).stop k H ∧ D.nx σ H) ∨ ((Itr 0 j.toNat).go k H ∧ ∃ N : L2.St → Hp → Prop, (∀ σ' H', N σ' H' → ∃ m', m' < m ∧ W (k + 1) m' σ' H') ∧ ∀ x H', (Itr 0 j.toNat).yld k H x H' → g x σ H' fun σ2 H2 => tb { D with nx := N, ct := N, bk := D.nx } σ2 H2)
theorem z_for1 {g : TG} {tb : TS} {D : Ends} (q : t σ H1 fun vs H2 => zFoR g tb D σ vs H2) : tFor (iRng1 t) g tb D σ H1 := q
theorem z_foR {g : TG} {tb : TS} {D : Ends} {n : Int} (h1 : -4611686018427387904 ≤ n) (h2 : n < 4611686018427387904) (I : Nat → L2.St → Hp → Prop) (h0 : I 0 σ H1)
    (hs : ∀ (k : Nat) σ H, k < n.toNat → I k σ H → g (.int k) σ H fun σ2 H2 => tb { D with nx := I (k + 1), ct := I (k + 1), bk := D.nx } σ2 H2) (hd : ∀ σ H, I n.toNat σ H → D.nx σ H) : zFoR g tb D σ [.int n] H1 :=
  ⟨n, rfl, by omega, by omega, for_it (walk_range (lo := 0) (n := n.toNat)) I h0 (fun _ _ _ _ _ => trivial) (fun k x σ H H' hk p y => by
    obtain ⟨rfl, rfl⟩ := y
    have e : (0 : Int) + (k : Int) = k := Int.zero_add _
    dsimp only
    rw [e]
    exact hs k σ H' hk p) hd⟩
end
/-! rules with the fragment under its own name (within a comprehension its context must not show) -/
section
variable {X : Cx} {K : Frag} {f : Value}
theorem callK (r : Frag → List V → Hp → VK → Prop) (h : X.K = K) (c : CallR X f (r X.K)) : CallR X f (r K) := by subst h; exact c
theorem slK (r : Frag → V → Option Int → Option Int → Hp → VK → Prop) (h : X.K = K) (c : SlR X (r X.K)) : SlR X (r K) := by subst h; exact c
theorem pe_fldK {e : Expr} {ta : TE} {x : Str} {pos : Pos} (h : X.K = K) (he : PE X e ta) (hb : attributeBase e x X.env (eval e X.env) = eval e X.env) : PE X (.Attribute e x pos) (tFld K ta x) := by subst h; exact pe_fld he hb
theorem pi_listK {tg l : Expr} {tl : TE} (h : X.K = K) (hl : PE X l tl) : PI X tg l (iList K tl) := by subst h; exact pi_list hl
theorem pi_tupK {tg l : Expr} {tl : TE} (h : X.K = K) (hl : PE X l tl) : PI X tg l (iTup K tl) := by subst h; exact pi_tup hl
theorem pg_attK {o : Expr} {x : Str} {ta : TE} {pos : Pos} (h : X.K = K) (ha : PE X o ta) : PG X (.Attribute o x pos) (gFld K ta x) := by subst h; exact pg_att ha
theorem piK {tg e : Expr} (w : Frag → TI) (h : X.K = K) (c : PI X tg e (w X.K)) : PI X tg e (w K) := by subst h; exact c
theorem pgK {tg : Expr} (w : Frag → TG) (h : X.K = K) (c : PG X tg (w X.K)) : PG X tg (w K) := by subst h; exact c
end
end Z
namespace Z
open PySem PySem.Spec PyProof.Rows L2
section
variable {K : Frag} {σ : L2.St} {H H' H1 : Hp} {Q : VK} {a p : Addr} {o : HO}
theorem z_isNI {i : Int} (q : Q (.bl false) H) : zIsN (.int i) .non H Q := z_isN (by simpa using q)
theorem z_isNN (q : Q (.bl true) H) : zIsN .non .non H Q := z_isN (by simpa using q)
theorem z_isNb (q : Q (.bl false) H) : zIsN (.ref a) .non H Q := z_isN (by simpa using q)
theorem z_notNI {i : Int} (q : Q (.bl true) H) : zNotN (.int i) .non H Q := z_notN (by simpa using q)
theorem z_notNN (q : Q (.bl false) H) : zNotN .non .non H Q := z_notN (by simpa using q)
theorem z_notNb (q : Q (.bl true) H) : zNotN (.ref a) .non H Q := z_notN (by simpa using q)
/-- o[i] = v -/
theorem z_gsub {to ti : TE} {t : TSet} {v : V} {D : L2.St → Hp → Prop} (q : to σ H fun o H1 => ti σ H1 fun i H2 => t o i v H2 fun H3 => D σ H3) : gSub to ti t v σ H D := q
theorem z_setL {xs : List V} {k : Int} {v : V} {j : Nat} {R : Hp → Prop} (h : H p = some (.lst xs)) (hj : (j : Int) = k) (hl : j < xs.length) (q : R (upd H p (.lst (xs.set j v)))) : rSetL (.ref p) (.int k) v H R := by
  subst hj
  refine ⟨p, xs, _, j, rfl, rfl, h, ?_, q⟩
  unfold ixN
  simp
  omega
/-- all stands but what lies at p -/
def But (p : Addr) (H H' : Hp) : Prop := ∀ a o, a ≠ p → H a = some o → H' a = some o
theorem But.at (e : But p H H') (ne : a ≠ p) (h : H a = some o) : H' a = some o := e a o ne h
theorem But.of (e : Same H H') : But p H H' := fun a o _ h => e a o h
theorem But.trans (e : But p H H1) (f : But p H1 H') : But p H H' := fun a o ne h => f a o ne (e a o ne h)
theorem But.set : But p H (upd H p o) := fun a _ ne h => by rw [upd_ne ne]; exact h
/-- a list of numbers -/
def IsPool (H : Hp) (p : Addr) : Prop := ∃ ns : List Int, H p = some (.lst (ns.map V.int))
theorem IsPool.mono (e : Same H H') (h : IsPool H p) : IsPool H' p := h.elim fun ns q => ⟨ns, e _ _ q⟩
theorem set_int {ns : List Int} {j : Nat} {v : Int} : (ns.map V.int).set j (.int v) = (ns.set j v).map V.int := (List.map_set).symm
end
end Z
namespace Z
open PySem PySem.Spec PyProof.Rows L2
theorem z_tup1L {K : Frag} {H : Hp} {Q : VK} {a : Addr} {xs : List V} (h : H a = some (.lst xs)) (k : ∀ p H', H p = none → Same H H' → H' p = some (.tup xs) → Q (.ref p) H') : rTup1 K [.ref a] H Q :=
  ⟨a, xs, rfl, .inl ⟨SqL.of h, fun p hp => k p _ hp (Same.new hp) upd_same⟩⟩
end Z
namespace Z
open PySem PySem.Spec PyProof.Rows L2
section
variable {K : Frag} {σ : L2.St} {H : Hp} {Q : VK} {p C dx : Addr} {fs : List (Str × V)} {i : Nat} {f : Str} {v : V} {D : L2.St → Hp → Prop}
theorem z_gfld (c : Cls K C) (n : NoAttr K C f) (hs : σ[i]? = some (some (.ref p))) (h : H p = some (.ins C dx fs)) (hl : fs.length < 1000) (q : D σ (upd H p (.ins C dx (putF f v fs)))) : gFld K (tVar i) f v σ H D := ⟨_, hs, p, C, dx, fs, rfl, h, c, n, hl, q⟩
theorem z_sfld {tv : TE} {E : Ends} (q : tv σ H fun y H1 => ∃ C dx fs p, σ[i]? = some (some (.ref p)) ∧ H1 p = some (.ins C dx fs) ∧ Cls K C ∧ NoAttr K C f ∧ fs.length < 1000 ∧ E.nx σ (upd H1 p (.ins C dx (putF f y fs)))) (mono : ∀ {R R' : VK}, (∀ v H, R v H → R' v H) → tv σ H R → tv σ H R') : sFld K (tVar i) tv f E σ H :=
  mono (fun y H1 z => by obtain ⟨C, dx, fs, p, h1, h2, h3, h4, h5, h6⟩ := z; exact ⟨_, h1, p, C, dx, fs, rfl, h2, h3, h4, h5, h6⟩) q
def zSfl (K : Frag) (i : Nat) (f : Str) (E : Ends) (σ : L2.St) (y : V) (H1 : Hp) : Prop := tVar i σ H1 fun x H2 => ∃ a C dx fs, x = .ref a ∧ H2 a = some (.ins C dx fs) ∧ Cls K C ∧ NoAttr K C f ∧ fs.length < 1000 ∧ E.nx σ (upd H2 a (.ins C dx (putF f y fs)))
theorem z_sfl {tv : TE} {E : Ends} (q : tv σ H fun y H1 => zSfl K i f E σ y H1) : sFld K (tVar i) tv f E σ H := q
theorem z_sflp {E : Ends} (c : Cls K C) (n : NoAttr K C f) (hs : σ[i]? = some (some (.ref p))) (h : H p = some (.ins C dx fs)) (hl : fs.length < 1000) (q : E.nx σ (upd H p (.ins C dx (putF f v fs)))) : zSfl K i f E σ v H := ⟨_, hs, p, C, dx, fs, rfl, h, c, n, hl, q⟩
theorem z_fldG (c : Cls K C) (n : NoAttr K C f) (hs : σ[i]? = some (some (.ref p))) (h : H p = some (.ins C dx fs)) (l : fs.lookup f = some v) (q : Q v H) : tFld K (tVar i) f σ H Q := ⟨_, hs, p, C, dx, fs, v, rfl, h, c, n, l, q⟩
theorem pfB {g : Str} {u : V} {r : List (Str × V)} (h : ¬ g = f) : putF f v ((g, u) :: r) = (g, u) :: putF f v r := by
  show (if g = f then _ else _) = _
  rw [if_neg h]
theorem pfN : putF f v [] = [(f, v)] := rfl
/-- a store at a new object keeps all that was there before it -/
theorem Same.put {H0 H1 : Hp} {o : HO} (s : Same H0 H1) (h : H0 p = none) : Same H0 (upd H1 p o) := fun b u hb => by
  rw [upd_ne (ne_of_none hb h)]
  exact s b u hb
end
end Z
namespace Z
open PySem PySem.Spec PyProof.Rows L2
section
variable {K : Frag} {H H' : Hp} {Q : VK} {p a : Addr} {xs : List V}
/-- an object that is no list stands too -/
theorem But.atT (e : But p H H') (hP : IsPool H p) (h : H a = some (.tup xs)) : H' a = some (.tup xs) := e a _ (fun q => by
  obtain ⟨ns, hn⟩ := hP
  rw [q, hn] at h
  cases h) h
theorem But.atI {C dx : Addr} {fs : List (Str × V)} (e : But p H H') (hP : IsPool H p) (h : H a = some (.ins C dx fs)) : H' a = some (.ins C dx fs) := e a _ (fun q => by
  obtain ⟨ns, hn⟩ := hP
  rw [q, hn] at h
  cases h) h
theorem IsPool.ne (hP : IsPool H p) (h : H a = none) : a ≠ p := fun e => by
  obtain ⟨ns, hn⟩ := hP
  rw [e, hn] at h
  cases h
theorem IsPool.of {ns : List Int} (h : H p = some (.lst (ns.map V.int))) : IsPool H p := ⟨ns, h⟩
/-- min of a list: is it zero -/
theorem z_ixC {ns : List Int} {k : Int} (h : H a = some (.lst (ns.map V.int))) (h0 : 0 ≤ k) (h1 : k < ns.length) (q : Q (.int (ns.getD k.toNat 0)) H) : rIx K (.ref a) (.int k) H Q :=
  z_ixL (SqL.of h) (at_int h0 (by rw [List.getD_eq_getElem?_getD, List.getElem?_eq_getElem (by omega)]; rfl)) q
end
end Z
namespace Z
open PySem PySem.Spec PyProof.Rows L2
theorem Same.none {H H' : Hp} {a : Addr} (s : Same H H') (h : H' a = Option.none) : H a = Option.none := by
  cases e : H a with
  | none => rfl
  | some o =>
    rw [s _ _ e] at h
    cases h
end Z

set_option maxHeartbeats 4000000
/-! append, more of isinstance -/
namespace Z
open PySem PySem.Spec PyProof.Rows L2
section
variable {K : Frag} {σ : L2.St} {H : Hp} {Q : VK} {t : TA} {i : Nat} {l : Addr} {xs : List V} {y : V}
/-- l.append(e) -/
theorem z_app (hs : σ[i]? = some (some (.ref l))) (h : H l = some (.lst xs)) (q : t σ H fun vs H1 => rAppend (.ref l) vs H1 Q) : tBM K "list" rAppend (tVar i) t σ H Q := ⟨_, hs, .inl ⟨rfl, _, SqL.of h⟩, q⟩
theorem z_ap (h : H l = some (.lst xs)) (hn : xs.length < 16777216) (q : Q .non (upd H l (.lst (xs ++ [y])))) : rAppend (.ref l) [y] H Q := ⟨l, xs, y, rfl, rfl, h, by rw [sizeLine_eq]; exact hn, q⟩
theorem z_isi_ni (q : Q (.bl false) H) : rIsi K [.non, .ty "int"] H Q := z_isi (.ty "int") (.base .non) (kit_ty (by decide +kernel)) q
end
end Z

set_option maxHeartbeats 4000000
/-! lcm, comb, lists turned round -/
namespace Z
open PySem PySem.Spec PyProof.Rows L2
section
variable {X : Cx} {K : Frag}
/-- the numbers' sizes that lcm takes -/
def rLcm : List V → Hp → VK → Prop := fun vs H Q => ∃ a b : Int, vs = [.int a, .int b] ∧ a.natAbs < 2 ^ 6000 ∧ b.natAbs < 2 ^ 6000 ∧ Q (.int ((Nat.lcm a.natAbs b.natAbs : Nat) : Int)) H
theorem cr_lcm : CallR X (.builtin "math.lcm") rLcm := by
  intro pins s σ H vs us Q I r h
  obtain ⟨a, b, rfl, ha, hb, q⟩ := h
  obtain ⟨t, u, rfl⟩ := Vals.int2 r
  have h1 : (max 1 a.natAbs).log2 ≤ 5999 := PySem.W.mg_log (Nat.max_lt.mpr ⟨Nat.one_lt_two_pow (by decide), ha⟩)
  have h2 : (max a.natAbs b.natAbs).log2 ≤ 5999 := PySem.W.mg_log (Nat.max_lt.mpr ⟨ha, hb⟩)
  have e : Nat.lcm 1 a.natAbs = a.natAbs := Nat.lcm_one_left _
  have g := PySem.W.mg_run_lcm a t b u (by omega) (by omega) (by
    rw [e, Int.natAbs_natCast]
    have l1 : Nat.lcm a.natAbs b.natAbs ≤ a.natAbs * b.natAbs := Nat.div_le_self _ _
    have l2 : a.natAbs * b.natAbs < 2 ^ 12000 := by
      have : (2 : Nat) ^ 12000 = 2 ^ 6000 * 2 ^ 6000 := by rw [← Nat.pow_add]
      rw [this]
      exact Nat.mul_lt_mul'' ha hb
    have := PySem.W.mg_log (n := Nat.lcm a.natAbs b.natAbs) (k := 11999) (Nat.lt_of_le_of_lt l1 l2)
    unfold bitsLine
    omega)
  rw [e] at g
  exact call_function_meets PySem.W.MGF.kind_lcm PySem.W.MGF.plain_lcm PySem.W.MGF.entry_lcm (PySem.W.MGF.args_lcm _ _) g.meets ⟨.int _, H, I.tok _, ⟨_, rfl⟩, q⟩
/-- comb of small numbers -/
def rComb : List V → Hp → VK → Prop := fun vs H Q => ∃ a b : Int, vs = [.int a, .int b] ∧ 0 ≤ a ∧ a ≤ 9000 ∧ 0 ≤ b ∧ b ≤ 9000 ∧ Q (.int (PySem.W.mcComb a b)) H
theorem cr_comb : CallR X (.builtin "math.comb") rComb := by
  intro pins s σ H vs us Q I r h
  obtain ⟨a, b, rfl, h1, h2, h3, h4, q⟩ := h
  obtain ⟨t, u, rfl⟩ := Vals.int2 r
  exact call_function_meets PySem.W.MGF.kind_comb PySem.W.MGF.plain_comb PySem.W.MGF.entry_comb (PySem.W.MGF.args_comb _ _) (PySem.W.mc_gives_comb t u h1 h3 (by omega) (.inl h4)).meets ⟨.int _, H, I.tok _, ⟨_, rfl⟩, q⟩
theorem pe_revLK {e : Expr} {te : TE} {k : Nat} {p1 p2 p3 pos : Pos} (h : X.K = K) (he : PE X e te) : PE X (.Subscript e (.Slice none none (some (.UnaryOp .USub (.Constant (.int 1) k p1) p2)) p3) pos) (tRevL K te) := by
  subst h
  exact pe_revL he
end
end Z

set_option maxHeartbeats 4000000
/-! enumerate and zip over lists and tuples, mixed -/
namespace Z
open PySem PySem.Spec PyProof.Rows L2
/-- a list (false) or a tuple (true) -/
def SqK (K : Frag) (k : Bool) (H : Hp) (a : Addr) (xs : List V) : Prop := match k with
  | true => SqT K H a xs
  | false => SqL K H a xs
theorem SqK.L {K : Frag} {H : Hp} {a : Addr} {xs : List V} (h : H a = some (.lst xs)) : SqK K false H a xs := SqL.of h
theorem SqK.T {K : Frag} {H : Hp} {a : Addr} {xs : List V} (h : H a = some (.tup xs)) : SqK K true H a xs := SqT.of h
def ItK (k : Bool) (h : Heap) (it a : Addr) (i : Nat) : Prop := match k with
  | true => h.IsTupleIter it a i
  | false => h.IsListIter it a i
def HasK (k : Bool) (h : Heap) (a : Addr) (its : Array Value) : Prop := match k with
  | true => h.IsTuple a its
  | false => h.IsList a its
def obK (k : Bool) (a : Addr) : Obj := match k with
  | true => { cls := .type "tuple_iterator", data := .fields #[.ref a, .int 0 0] }
  | false => { cls := .type "list_iterator", data := .fields #[.ref a, .int 0 0] }
theorem begK (k : Bool) (a : Addr) (its : Array Value) : Begins (.ref a) (obK k a) fun h => HasK k h a its := by
  cases k
  · exact begins_list a its
  · exact begins_tuple a its
theorem itK0 {k : Bool} {h : Heap} {it a : Addr} (e : h.get? it = some (obK k a)) : ItK k h it a 0 := by
  cases k
  · exact ⟨_, e, rfl, rfl⟩
  · exact ⟨_, e, rfl, rfl⟩
theorem ItK.lt {k : Bool} {h : Heap} {it a : Addr} {i : Nat} (e : ItK k h it a i) : it < h.objs.size := by
  cases k
  · obtain ⟨o, q, _⟩ := e
    exact Heap.lt_size q
  · obtain ⟨o, q, _⟩ := e
    exact Heap.lt_size q
theorem ItK.obj {k : Bool} {h : Heap} {it a : Addr} {i : Nat} (e : ItK k h it a i) : ∃ o, h.get? it = some o ∧ ∀ v, o.data ≠ .cell v := by
  cases k
  · obtain ⟨o, q, _, d⟩ := e
    exact ⟨o, q, fun v z => by rw [d] at z; cases z⟩
  · obtain ⟨o, q, _, d⟩ := e
    exact ⟨o, q, fun v z => by rw [d] at z; cases z⟩
theorem ItK.keep {k : Bool} {h h' : Heap} {it a : Addr} {i : Nat} (e : ItK k h it a i) (kp : ∀ o, h.get? it = some o → h'.get? it = some o) : ItK k h' it a i := by
  cases k
  · exact e.at kp
  · exact e.at kp
theorem drwK {P : Program} {w : World} {A : Around} (k : Bool) (hh : A.handled = none) (it a : Addr) (hne : a ≠ it) (its : Array Value) :
    Draws P w A it [it, a] its.size (fun i v => its[i]? = some v) (fun i h => ItK k h it a i ∧ HasK k h a its) := by
  cases k
  · exact Draws.list hh it a hne its
  · exact Draws.tuple hh it a hne its
section
variable {X : Cx} {pins : List (Addr × Obj)} {σ : L2.St} {H : Hp} {s : Shared} {a : Addr} {xs : List V}
theorem inv_seqK {k : Bool} (I : Inv X pins σ H s) (h : SqK X.K k H a xs) : ∃ its : List Value, Vals xs its ∧ HasK k s.heap a its.toArray ∧ a < s.heap.objs.size := by
  cases k
  · obtain ⟨its, r, p, _⟩ := I.list h
    exact ⟨its, r, p.isList, p.lt⟩
  · obtain ⟨its, r, p, _⟩ := I.tuple h
    obtain ⟨o, ho, _⟩ := id p
    exact ⟨its, r, p, Heap.lt_size ho⟩
/-- one turn of an iterator that gives tuples -/
theorem turn_core {z : Addr} {fpW wr fp : List Addr} {n : Nat} {Pt : Nat → Array Value → Prop} {Sg : Nat → Heap → Prop} {Mid : Nat → Addr → Heap → Prop} {VS : List V → Prop} {i : Nat} {E : Value → Shared → Prop} {elts : List Expr} {kk : Nat} {tpos : Pos}
    (W : WalksT X.prog X.w X.A z fpW wr n Pt Sg Mid) (I : Inv X pins σ H s) (hf : ∀ b ∈ fp, FpOk X pins H b) (hlt : ∀ b ∈ fp, b < s.heap.objs.size) (hw : ∀ b ∈ wr, b ∈ fp) (hi : i < n) (st : Sg i s.heap)
    (hP : ∀ vals, Pt i vals → ∃ vs : List V, Vals vs vals.toList ∧ VS vs ∧ vs.length ≤ sizeLine) :
    wpAny (model X.prog X.w) X.A (pyNext (.ref z)) (fun r s1 => ∃ u, r = some u ∧
      wpAny (model X.prog X.w) X.A (letOwnedTupleGo (.Tuple elts kk tpos) (.ref z) u) (fun _ s2 => ∃ x H', Inv X pins σ H' s2 ∧ RelV x u ∧ (∃ T vs, x = .ref T ∧ H T = none ∧ H' = upd H T (.tup vs) ∧ VS vs) ∧ Sg (i + 1) s2.heap ∧ ∀ b ∈ fp, H' b = none) E s1) E s := by
  refine W.item i s _ _ hi st fun T vals h' tk p hT it mid kp => ⟨_, rfl, W.go elts kk tpos i T _ _ _ mid fun h'' st' kp' => ?_⟩
  obtain ⟨vs, rv, v, hz⟩ := hP vals p
  have kept : ∀ b o, b ∉ wr → s.heap.get? b = some o → h''.get? b = some o := fun b o nb e => kp' b o nb (kp b o nb e)
  have nT : T ∉ wr := W.apart i T h' mid
  obtain ⟨ot, e1, e2, m, e3⟩ := it
  have hf' : ∀ b ∈ wr, FpOk X pins H b := fun b hb => hf b (hw b hb)
  have new : ObjOk X.prog X.w (upd H T (.tup vs)) h'' T (.tup vs) := ⟨hz, vals.toList, rv, ⟨ot, kp' T ot nT e1, e2, m, by simpa using e3⟩⟩
  refine ⟨.ref T, _, I.turnedNew (ch := wr) kept hf' hT new, rfl, ⟨T, vs, rfl, I.hok.fresh hT, rfl, v⟩, st', fun b hb => ?_⟩
  have ne : b ≠ T := Nat.ne_of_lt (Nat.lt_of_lt_of_le (hlt b hb) hT)
  rw [upd_ne ne]
  exact (hf b hb).1
theorem end_core {z : Addr} {fpW wr fp : List Addr} {n : Nat} {Pt : Nat → Array Value → Prop} {Sg : Nat → Heap → Prop} {Mid : Nat → Addr → Heap → Prop} {E : Value → Shared → Prop}
    (W : WalksT X.prog X.w X.A z fpW wr n Pt Sg Mid) (I : Inv X pins σ H s) (hf : ∀ b ∈ fp, FpOk X pins H b) (hw : ∀ b ∈ wr, b ∈ fp) (st : Sg n s.heap) :
    wpAny (model X.prog X.w) X.A (pyNext (.ref z)) (fun r s1 => r = none ∧ Inv X pins σ H s1) E s :=
  W.done s _ _ st fun h' tk kp => ⟨rfl, I.turnedL (ch := wr) (fun b o hb e => kp b o hb e) fun b hb => hf b (hw b hb)⟩
end
/-! ### zip -/
def ItZ (K : Frag) (k1 k2 : Bool) (a b : Addr) (xs ys : List V) : It :=
  ⟨fun i H => SqK K k1 H a xs ∧ SqK K k2 H b ys ∧ i < min xs.length ys.length,
    fun i H v H' => ∃ T x y, v = .ref T ∧ H T = none ∧ H' = upd H T (.tup [x, y]) ∧ xs[i]? = some x ∧ ys[i]? = some y,
    fun i H => SqK K k1 H a xs ∧ SqK K k2 H b ys ∧ i = min xs.length ys.length⟩
theorem vals_at {xs : List V} {its : List Value} (r : Vals xs its) {i : Nat} {u : Value} (h : its.toArray[i]? = some u) : ∃ x, xs[i]? = some x ∧ RelV x u := by
  have hi : i < its.length := by
    by_cases c : i < its.length
    · exact c
    · rw [Array.getElem?_eq_none (by simpa using c)] at h
      cases h
  have hl := r.length
  have hx : xs[i]? = some (xs[i]'(by omega)) := List.getElem?_eq_getElem _
  obtain ⟨u2, e2, ru⟩ := r.get hx
  have : its.toArray[i]? = some u2 := by simpa using e2
  rw [h] at this
  cases this
  exact ⟨_, hx, ru⟩
def tnZ (k1 k2 : Bool) (a b z TI TO i1 i2 : Addr) (i : Nat) (h : Heap) : Prop := IsZip h z TI TO .none ∧ IsTupOf2 h TI (.ref i1) (.ref i2) ∧ (∃ u v, IsTupOf2 h TO u v) ∧ ItK k1 h i1 a i ∧ ItK k2 h i2 b i
theorem turn_zipM {P : Program} {w : World} {K : Frag} {elts : List Expr} {kk : Nat} {tpos : Pos} {k1 k2 : Bool} {a b z TI TO i1 i2 : Addr} {xs ys : List V} (S : ZipSep2 z TI TO i1 i2 [i1, a] [i2, b]) (ha : a ≠ i1) (hb : b ≠ i2) :
    Turn P w K (.Tuple elts kk tpos) (ItZ K k1 k2 a b xs ys) [z, TI, TO, i1, i2] z (tnZ k1 k2 a b z TI TO i1 i2) where
  mem := by simp
  obj := fun i h st c hc => by
    obtain ⟨hz, hTI, ⟨x, y, hTO⟩, h1, h2⟩ := st
    have e' : c = z ∨ c = TI ∨ c = TO ∨ c = i1 ∨ c = i2 := by simpa using hc
    rcases e' with rfl | rfl | rfl | rfl | rfl
    · exact ⟨_, hz, fun v q => nomatch q⟩
    · exact ⟨_, hTI, fun v q => nomatch q⟩
    · exact ⟨_, hTO, fun v q => nomatch q⟩
    · exact h1.obj
    · exact h2.obj
  keep := fun i h h' st k => by
    obtain ⟨hz, hTI, ⟨x, y, hTO⟩, h1, h2⟩ := st
    exact ⟨k z (by simp) _ hz, k TI (by simp) _ hTI, ⟨x, y, k TO (by simp) _ hTO⟩, h1.keep (k i1 (by simp)), h2.keep (k i2 (by simp))⟩
  item := by
    intro X hP hw hK hc i pins s σ H E I hf st hg
    subst hP hw hK
    obtain ⟨qx, qy, hi⟩ := hg
    obtain ⟨its, rv, p1, la⟩ := inv_seqK I qx
    obtain ⟨its2, rv2, p2, lb⟩ := inv_seqK I qy
    obtain ⟨hz, hTI, ⟨x, y, hTO⟩, h1, h2⟩ := st
    have hh : X.A.in1.handled = none := I.ok.hd hc
    have l1 := rv.length
    have l2 := rv2.length
    have W := WalksT.zipD2 S (drwK (P := X.prog) (w := X.w) k1 hh i1 a ha its.toArray) (drwK (P := X.prog) (w := X.w) k2 hh i2 b hb its2.toArray)
    refine wpAny_mono (turn_core (elts := elts) (kk := kk) (tpos := tpos) (fp := [z, TI, TO, i1, i2]) (VS := fun vs => ∃ u v, vs = [u, v] ∧ xs[i]? = some u ∧ ys[i]? = some v) W I hf ?_ (by simp) (i := i) (by simp; omega) ⟨hz, hTI, ⟨x, y, hTO⟩, ⟨h1, p1⟩, ⟨h2, p2⟩⟩ ?_) ?_ (fun _ _ e => e)
    · intro c hcm
      have e' : c = z ∨ c = TI ∨ c = TO ∨ c = i1 ∨ c = i2 := by simpa using hcm
      rcases e' with rfl | rfl | rfl | rfl | rfl
      · exact Heap.lt_size hz
      · exact Heap.lt_size hTI
      · exact Heap.lt_size hTO
      · exact h1.lt
      · exact h2.lt
    · rintro vals ⟨u, v, hu, hv, rfl⟩
      obtain ⟨x', ex, rx⟩ := vals_at rv hu
      obtain ⟨y', ey, ry⟩ := vals_at rv2 hv
      exact ⟨[x', y'], .cons rx (.cons ry .nil), ⟨_, _, rfl, ex, ey⟩, by show 2 ≤ sizeLine; decide⟩
    · rintro r s1 ⟨u, rfl, q⟩
      refine ⟨u, rfl, wpAny_mono q (fun _ s2 z2 => ?_) (fun _ _ e => e)⟩
      obtain ⟨x2, H', I2, r2, ⟨T, vs, e1, e2, e3, u3, v3, e4, e5, e6⟩, ⟨t1, t2, t3, ⟨t4, _⟩, ⟨t5, _⟩⟩, fr⟩ := z2
      subst e4
      exact ⟨x2, H', I2, r2, ⟨T, u3, v3, e1, e2, e3, e5, e6⟩, ⟨t1, t2, t3, t4, t5⟩, fr⟩
  done := by
    intro X hP hw hK hc i pins s σ H E I hf st hg
    subst hP hw hK
    obtain ⟨qx, qy, hi⟩ := hg
    obtain ⟨its, rv, p1, la⟩ := inv_seqK I qx
    obtain ⟨its2, rv2, p2, lb⟩ := inv_seqK I qy
    obtain ⟨hz, hTI, ⟨x, y, hTO⟩, h1, h2⟩ := st
    have hh : X.A.in1.handled = none := I.ok.hd hc
    have l1 := rv.length
    have l2 := rv2.length
    have W := WalksT.zipD2 S (drwK (P := X.prog) (w := X.w) k1 hh i1 a ha its.toArray) (drwK (P := X.prog) (w := X.w) k2 hh i2 b hb its2.toArray)
    have e : min its.toArray.size its2.toArray.size = i := by simp; omega
    rw [e] at W
    exact end_core (fp := [z, TI, TO, i1, i2]) W I hf (by simp) ⟨hz, hTI, ⟨x, y, hTO⟩, ⟨h1, p1⟩, ⟨h2, p2⟩⟩
  self := fun A i s Q E st h => wpAny_pyIter_zip st.1 h
def iZipM (K : Frag) (ta : TA) : TI := fun σ H R => ta σ H fun vs H1 => ∃ (k1 k2 : Bool) (a b : Addr) (xs ys : List V), vs = [.ref a, .ref b] ∧ SqK K k1 H1 a xs ∧ SqK K k2 H1 b ys ∧ R (ItZ K k1 k2 a b xs ys) H1
theorem vals2 {a b : Addr} {us : List Value} (r : Vals [V.ref a, V.ref b] us) : us = [Value.ref a, Value.ref b] := by
  cases r with
  | cons r1 r =>
    cases r with
    | cons r2 r =>
      cases r
      cases r1
      cases r2
      rfl
theorem vals1r {a : Addr} {us : List Value} (r : Vals [V.ref a] us) : us = [Value.ref a] := by
  cases r with
  | cons r1 r =>
    cases r
    cases r1
    rfl
theorem pi_zipM {X : Cx} {e e2 : Expr} {ta : TA} {p pos tpos : Pos} {elts : List Expr} {kk : Nat} (hg : Gl X "zip") (hm : X.mg "zip" = none) (ha : PA X [e, e2] ta)
    (hs : starEach [e, e2] X.env = (false, eval e X.env) :: starEach [e2] X.env := by rfl) (hpl : (backTo pos (starEach [e2] X.env)).any (·.1) = false := by rfl) :
    PI X (.Tuple elts kk tpos) (.Call (.Name "zip" p) [e, e2] [] pos) (iZipM X.K ta) := by
  refine ⟨fun pins s σ H R I h => ?_⟩
  refine Call_ (ld_blt I hg hm PyProof.Rows.boot_zip (PyProof.Rows.callWith_type1 (thn (ha.run pos pins s σ H _ I h) fun us s1 ⟨vs, H1, I1, r1, q1⟩ => ?_) hs hpl))
  obtain ⟨k1, k2, a, b, xs, ys, ex, qx, qy, q⟩ := q1
  subst ex
  obtain rfl := vals2 r1
  obtain ⟨its, rv, p1, la⟩ := inv_seqK I1 qx
  obtain ⟨its2, rv2, p2, lb⟩ := inv_seqK I1 qy
  refine zip_begins2 (begK k1 a its.toArray) (begK k2 b its2.toArray) p1 p2 fun h' hz hTI hTO h1 h2 hsz hk => wpAny_pyIter_zip hz ?_
  have I2 : Inv X pins σ H1 { s1 with heap := h' } := I1.kept (t' := s1.toks) hk
  have S := zip_sep2 (N := s1.heap.objs.size) (fp1 := [a]) (fp2 := [b]) (by simpa using la) (by simpa using lb)
  refine ⟨s1.heap.objs.size + 4, [s1.heap.objs.size + 4, s1.heap.objs.size + 2, s1.heap.objs.size + 3, s1.heap.objs.size, s1.heap.objs.size + 1], _, _, H1, rfl, I2,
    turn_zipM S (Nat.ne_of_lt la) (Nat.ne_of_lt (Nat.lt_succ_of_lt lb)), ⟨hz, hTI, ⟨_, _, hTO⟩, itK0 h1, itK0 h2⟩, fun c hcm => ?_, q⟩
  have hle : s1.heap.objs.size ≤ c := by
    simp only [List.mem_cons, List.not_mem_nil, or_false] at hcm
    rcases hcm with rfl | rfl | rfl | rfl | rfl
    · exact Nat.le_add_right _ _
    · exact Nat.le_add_right _ _
    · exact Nat.le_add_right _ _
    · exact Nat.le_refl _
    · exact Nat.le_add_right _ _
  exact I1.fpOk hle (I1.hok.fresh hle)
theorem walk_zipM {K : Frag} {k1 k2 : Bool} {a b : Addr} {xs ys : List V} {n : Nat} (hn : n = min xs.length ys.length) : Walk (ItZ K k1 k2 a b xs ys) n (fun H => SqK K k1 H a xs ∧ SqK K k2 H b ys) (YPair (fun i => xs[i]?) (fun i => ys[i]?)) := by
  subst hn
  exact ⟨fun i _ hi q => ⟨q.1, q.2, hi⟩, fun _ q => ⟨q.1, q.2, rfl⟩, fun i H v H' _ q y => by
    obtain ⟨T, x, y, h1, h2, h3, h4, h5⟩ := y
    exact ⟨T, x, y, h1, h2, h3, h4, h5⟩⟩
/-! ### enumerate -/
def ItE (K : Frag) (k : Bool) (a : Addr) (xs : List V) : It :=
  ⟨fun i H => SqK K k H a xs ∧ i < xs.length, fun i H v H' => ∃ T x, v = .ref T ∧ H T = none ∧ H' = upd H T (.tup [.int (i : Nat), x]) ∧ xs[i]? = some x, fun i H => SqK K k H a xs ∧ i = xs.length⟩
theorem turn_enumM {P : Program} {w : World} {K : Frag} {elts : List Expr} {kk : Nat} {tpos : Pos} {k : Bool} {a e it : Addr} {xs : List V} (hei : e ≠ it) (hea : e ≠ a) (hai : a ≠ it) :
    Turn P w K (.Tuple elts kk tpos) (ItE K k a xs) [e, it] e (fun i h => (∃ old, IsEnum h e it ((i : Nat) : Int) old) ∧ ItK k h it a i) where
  mem := by simp
  obj := fun i h st c hc => by
    obtain ⟨⟨old, he⟩, h1⟩ := st
    have e' : c = e ∨ c = it := by simpa using hc
    rcases e' with rfl | rfl
    · exact ⟨_, he, fun v q => nomatch q⟩
    · exact h1.obj
  keep := fun i h h' st kp => by
    obtain ⟨⟨old, he⟩, h1⟩ := st
    exact ⟨⟨old, kp e (by simp) _ he⟩, h1.keep (kp it (by simp))⟩
  item := by
    intro X hP hw hK hc i pins s σ H E I hf st hg
    subst hP hw hK
    obtain ⟨qx, hi⟩ := hg
    obtain ⟨its, rv, p1, la⟩ := inv_seqK I qx
    obtain ⟨⟨old, he⟩, h1⟩ := st
    have hh : X.A.in1.handled = none := I.ok.hd hc
    have l1 := rv.length
    have W := WalksT.enumerateD (drwK (P := X.prog) (w := X.w) k hh it a hai its.toArray) e hei (by simp; exact ⟨hei, hea⟩) (by simp)
    refine wpAny_mono (turn_core (elts := elts) (kk := kk) (tpos := tpos) (fp := [e, it]) (VS := fun vs => ∃ v, vs = [V.int (i : Nat), v] ∧ xs[i]? = some v) W I hf ?_ (by simp) (i := i) (by simp; omega) ⟨⟨old, he⟩, h1, p1⟩ ?_) ?_ (fun _ _ e => e)
    · intro c hcm
      have e' : c = e ∨ c = it := by simpa using hcm
      rcases e' with rfl | rfl
      · exact Heap.lt_size he
      · exact h1.lt
    · rintro vals ⟨t, x, hx, rfl⟩
      obtain ⟨x', ex, rx⟩ := vals_at rv hx
      exact ⟨[V.int (i : Nat), x'], .cons (show RelV (V.int (i : Nat)) (Value.int i t) from ⟨_, rfl⟩) (.cons rx .nil), ⟨_, rfl, ex⟩, by show 2 ≤ sizeLine; decide⟩
    · rintro r s1 ⟨u, rfl, q⟩
      refine ⟨u, rfl, wpAny_mono q (fun _ s2 z2 => ?_) (fun _ _ e => e)⟩
      obtain ⟨x2, H', I2, r2, ⟨T, vs, e1, e2, e3, v3, e4, e5⟩, ⟨t1, t2, _⟩, fr⟩ := z2
      subst e4
      exact ⟨x2, H', I2, r2, ⟨T, v3, e1, e2, e3, e5⟩, ⟨t1, t2⟩, fr⟩
  done := by
    intro X hP hw hK hc i pins s σ H E I hf st hg
    subst hP hw hK
    obtain ⟨qx, hi⟩ := hg
    obtain ⟨its, rv, p1, la⟩ := inv_seqK I qx
    obtain ⟨⟨old, he⟩, h1⟩ := st
    have hh : X.A.in1.handled = none := I.ok.hd hc
    have l1 := rv.length
    have W := WalksT.enumerateD (drwK (P := X.prog) (w := X.w) k hh it a hai its.toArray) e hei (by simp; exact ⟨hei, hea⟩) (by simp)
    have en : its.toArray.size = i := by simp; omega
    rw [en] at W
    exact end_core (fp := [e, it]) W I hf (by simp) ⟨⟨old, he⟩, h1, p1⟩
  self := fun A i s Q E st h => let ⟨⟨_, he⟩, _⟩ := st; wpAny_pyIter_enum he h
set_option maxHeartbeats 1000000 in
theorem meets_enum1 {v : Value} {o : Obj} {Hv : Heap → Prop} (B : Begins v o Hv) :
    Meets (Builtin.«enumerate.__new__» ⟨[.type "enumerate", v], []⟩) (fun _ R s => Hv s.heap ∧
      R (.ok (.ret (.ref (s.heap.push o).objs.size))) { s with heap := (s.heap.push o).push { cls := .type "enumerate", data := .fields #[.none, .bool false, .ref s.heap.objs.size, rawInt 0, .none, .none] } }) :=
  .of_wp fun prog w A R s h => by
    obtain ⟨hp, g, d, tk, os⟩ := s; obtain ⟨h1, h⟩ := h
    have hsub := sub_enumerate
    have q1 : ∀ {A' : Around} {E : Value → Shared → Prop} {Q : Value → Shared → Prop}, Q (.ref hp.objs.size) ⟨hp.push o, g, d, tk, os⟩ → wpAny (model prog w) A' (pyIter v) Q E ⟨hp, g, d, tk, os⟩ :=
      fun q => B.iter prog w _ _ ⟨hp, g, d, tk, os⟩ _ h1 q
    wp_walk using q1
    refine wpAny_stack_any fun st => wpAny_pure ?_
    split
    · rename_i c _ _ _ _ _
      cases (c == Value.type "enumerate") <;> (wp_walk using q1; exact ⟨_, rfl, h⟩)
    · wp_walk using q1
      exact ⟨_, rfl, h⟩
theorem call_enumM {prog : Program} {w : World} {A : Around} {E : Value → Shared → Prop} {s : Shared} {v : Value} {o : Obj} {Hv : Heap → Prop} {Q : Value → Shared → Prop} (B : Begins v o Hv) (h1 : Hv s.heap)
    (h : ∀ h', IsEnum h' (s.heap.objs.size + 1) s.heap.objs.size 0 .none → h'.get? s.heap.objs.size = some o → (∀ b o, s.heap.get? b = some o → h'.get? b = some o) → Q (.ref (s.heap.objs.size + 1)) { s with heap := h' }) :
    wpAny (model prog w) A (call (.type "enumerate") [v]) Q E s := by
  refine callType_new F.called_enumerate (by decide) (F.typeCall_enumerate_1 _) (F.newCall_enumerate_1 _) (fun obj => F.args_object_init_2 obj _) F.entry_enumerate_new (meets_enum1 B) ⟨h1, ?_⟩
  have hz : (s.heap.push o).objs.size = s.heap.objs.size + 1 := Heap.size_push ..
  have he := Heap.get?_push_size (s.heap.push o) (o := { cls := .type "enumerate", data := .fields #[.none, .bool false, .ref s.heap.objs.size, rawInt 0, .none, .none] }) rfl
  show _ ∧ _
  rw [hz] at he ⊢
  exact ⟨⟨_, he, rfl⟩, h _ he (Heap.get?_push_of_some _ (Heap.get?_push_size _ B.free)) fun b o x => Heap.get?_push_of_some _ (Heap.get?_push_of_some _ x)⟩
def iEnumM (K : Frag) (ta : TA) : TI := fun σ H R => ta σ H fun vs H1 => ∃ (k : Bool) (a : Addr) (xs : List V), vs = [.ref a] ∧ SqK K k H1 a xs ∧ R (ItE K k a xs) H1
theorem pi_enumM {X : Cx} {e : Expr} {ta : TA} {p pos tpos : Pos} {elts : List Expr} {kk : Nat} (hg : Gl X "enumerate") (hm : X.mg "enumerate" = none) (ha : PA X [e] ta) (hs : starEach [e] X.env = [(false, eval e X.env)] := by rfl) :
    PI X (.Tuple elts kk tpos) (.Call (.Name "enumerate" p) [e] [] pos) (iEnumM X.K ta) := by
  refine ⟨fun pins s σ H R I h => ?_⟩
  refine Call_ (ld_blt I hg hm boot_enumerate (PyProof.Rows.callWith_type1 (thn (ha.run pos pins s σ H _ I h) fun us s1 ⟨vs, H1, I1, r1, q1⟩ => ?_) hs rfl))
  obtain ⟨k, a, xs, ex, qx, q⟩ := q1
  subst ex
  obtain rfl := vals1r r1
  obtain ⟨its, rv, p1, la⟩ := inv_seqK I1 qx
  refine call_enumM (begK k a its.toArray) p1 fun h' he hit hk => wpAny_pyIter_enum he ?_
  have I2 : Inv X pins σ H1 { s1 with heap := h' } := I1.kept (t' := s1.toks) hk
  refine ⟨s1.heap.objs.size + 1, [s1.heap.objs.size + 1, s1.heap.objs.size], _, _, H1, rfl, I2, turn_enumM (Nat.succ_ne_self _) (Nat.ne_of_gt (Nat.lt_succ_of_lt la)) (Nat.ne_of_lt la), ⟨⟨.none, he⟩, itK0 hit⟩, fun c hcm => ?_, q⟩
  have hle : s1.heap.objs.size ≤ c := by
    simp only [List.mem_cons, List.not_mem_nil, or_false] at hcm
    rcases hcm with rfl | rfl
    · exact Nat.le_add_right _ _
    · exact Nat.le_refl _
  exact I1.fpOk hle (I1.hok.fresh hle)
theorem walk_enumM {K : Frag} {k : Bool} {a : Addr} {xs : List V} : Walk (ItE K k a xs) xs.length (fun H => SqK K k H a xs) (YPair (fun i => some (.int (i : Nat))) (fun i => xs[i]?)) :=
  ⟨fun i _ hi q => ⟨q, hi⟩, fun _ q => ⟨q, rfl⟩, fun i H v H' _ q y => by
    obtain ⟨T, x, h1, h2, h3, h4⟩ := y
    exact ⟨T, .int (i : Nat), x, h1, h2, h3, rfl, h4⟩⟩
end Z

set_option maxHeartbeats 4000000
/-! lists told item by item; comprehensions and loops over them; sizes -/
namespace Z
open PySem PySem.Spec PyProof.Rows L2
/-- all but lists stands -/
def SameN (H H' : Hp) : Prop := ∀ a o, H a = some o → (∀ xs, o ≠ .lst xs) → H' a = some o
theorem SameN.of {H H' : Hp} (s : Same H H') : SameN H H' := fun a o h _ => s a o h
theorem SameN.trans {H H1 H2 : Hp} (s : SameN H H1) (t : SameN H1 H2) : SameN H H2 := fun a o h n => t a o (s a o h n) n
theorem SameN.put {H : Hp} {l : Addr} {xs ys : List V} (h : H l = some (.lst xs)) : SameN H (upd H l (.lst ys)) := fun a o e n => by
  rw [upd_ne]
  · exact e
  · intro q
    rw [q, h] at e
    exact n xs (Option.some.inj e).symm
/-- a list of n items, each told by It -/
def Ls (H : Hp) (l : Addr) (n : Nat) (It : Hp → V → Nat → Prop) : Prop := ∃ xs, H l = some (.lst xs) ∧ xs.length = n ∧ ∀ k x, xs[k]? = some x → It H x k
def Mono (It : Hp → V → Nat → Prop) : Prop := ∀ H H' x k, SameN H H' → It H x k → It H' x k
theorem Ls.mono {H H' : Hp} {l : Addr} {n : Nat} {It : Hp → V → Nat → Prop} (m : Mono It) (s : Same H H') (h : Ls H l n It) : Ls H' l n It := by
  obtain ⟨xs, h1, h2, h3⟩ := h
  exact ⟨xs, s _ _ h1, h2, fun k x e => m _ _ _ _ (SameN.of s) (h3 k x e)⟩
theorem Ls.imp {H : Hp} {l : Addr} {n : Nat} {It Jt : Hp → V → Nat → Prop} (h : Ls H l n It) (i : ∀ x k, k < n → It H x k → Jt H x k) : Ls H l n Jt := by
  obtain ⟨xs, h1, h2, h3⟩ := h
  exact ⟨xs, h1, h2, fun k x e => i x k (by
    by_cases c : k < xs.length
    · omega
    · rw [List.getElem?_eq_none (by omega)] at e
      cases e) (h3 k x e)⟩
/-- one more item behind -/
theorem Ls.snoc {H : Hp} {l : Addr} {xs : List V} {y : V} {n : Nat} {It : Hp → V → Nat → Prop} (m : Mono It) (h1 : H l = some (.lst xs)) (h2 : xs.length = n) (h3 : ∀ k x, xs[k]? = some x → It H x k) (hy : It H y n) : Ls (upd H l (.lst (xs ++ [y]))) l (n + 1) It := by
  refine ⟨_, upd_same, by simp [h2], fun k x e => m _ _ _ _ (SameN.put h1) ?_⟩
  rw [List.getElem?_append] at e
  split at e
  · exact h3 k x e
  · rename_i c
    have : k = n := by
      by_cases q : k - xs.length = 0
      · omega
      · rw [List.getElem?_eq_none (by simp; omega)] at e
        cases e
    subst this
    rw [h2, Nat.sub_self] at e
    cases e
    exact hy
section
variable {K : Frag} {σ : L2.St} {H1 : Hp} {Q : VK} {te : TE} {i j : Nat}
/-- a comprehension whose turns give items told by It -/
theorem z_lcP {J : It} {n : Nat} {G : Hp → Prop} {Y : Nat → Hp → V → Hp → Prop} {g : TG} {vs : List Nat} (w : Walk J n G Y) (It : Hp → V → Nat → Prop) (m : Mono It) (hn : n ≤ 16777216) (hG : ∀ H', Same H1 H' → G H')
    (hs : ∀ k x H H' (N : VK), k < n → Same H1 H → Y k H x H' → (∀ y H4, Same H H4 → It H4 y k → N y H4) → g x (wipe σ vs) H' fun σ2 H2 => wipe σ2 vs = wipe σ vs ∧ te σ2 H2 N)
    (k : ∀ D H', H1 D = none → Same H1 H' → Ls H' D n It → Q (.ref D) H') : zLc J g tYes te vs σ H1 Q := fun D hD => by
  refine lc_it w (fun i H => Same H1 H ∧ Ls H D i It) ⟨Same.new hD, [], upd_same, rfl, fun k x e => by simp at e⟩ (fun i H hi p => hG H p.1) (fun i x H H' hi p y => ?_) (fun H p => k D H hD p.1 p.2)
  refine hs i x H H' _ hi p.1 y (fun y H4 s4 hy => ?_)
  obtain ⟨xs, h1, h2, h3⟩ := p.2.mono m s4
  refine ⟨_, h1, ?_, ?_, Ls.snoc m h1 h2 h3 hy⟩
  · rw [sizeLine_eq]
    omega
  · intro b o hb
    rw [upd_ne (ne_of_none hb hD)]
    exact s4 _ _ (p.1 _ _ hb)
/-- over a range -/
theorem z_lcRP {n : Int} (It : Hp → V → Nat → Prop) (m : Mono It) {vs : List Nat} (h1 : -4611686018427387904 ≤ n) (h2 : n ≤ 16777216)
    (hs : ∀ (k : Nat) H (N : VK), k < n.toNat → Same H1 H → (∀ y H4, Same H H4 → It H4 y k → N y H4) → wipe ((wipe σ vs).set i (some (.int k))) vs = wipe σ vs ∧ te ((wipe σ vs).set i (some (.int k))) H N)
    (k : ∀ D H', H1 D = none → Same H1 H' → Ls H' D n.toNat It → Q (.ref D) H') : zLcR (gName i) tYes te vs σ [.int n] H1 Q := by
  refine ⟨n, rfl, by omega, by omega, ?_⟩
  refine z_lcP (walk_range (lo := 0) (n := n.toNat)) It m (by omega) (fun _ _ => trivial) (fun k x H H' N hk s y c => ?_) k
  obtain ⟨rfl, rfl⟩ := y
  have e : (0 : Int) + (k : Int) = k := Int.zero_add _
  dsimp only
  rw [e]
  exact hs k H' N hk s c
/-- over any list -/
theorem z_lcVP {a : Addr} {xs : List V} (It : Hp → V → Nat → Prop) (m : Mono It) {vs : List Nat} (h : H1 a = some (.lst xs)) (hn : xs.length ≤ 16777216)
    (hs : ∀ k x H (N : VK), xs[k]? = some x → Same H1 H → (∀ y H4, Same H H4 → It H4 y k → N y H4) → wipe ((wipe σ vs).set i (some x)) vs = wipe σ vs ∧ te ((wipe σ vs).set i (some x)) H N)
    (k : ∀ D H', H1 D = none → Same H1 H' → Ls H' D xs.length It → Q (.ref D) H') : zLcL K (gName i) tYes te vs σ (.ref a) H1 Q := by
  refine ⟨a, rfl, ⟨_, SqL.of h⟩, ?_⟩
  refine z_lcP (walk_list (K := K) (a := a) (xs := xs)) It m hn (fun H' s => SqL.of (s _ _ h)) (fun k x H H' N hk s y c => ?_) k
  obtain ⟨rfl, hx⟩ := y
  exact hs k x H' N hx s c
/-- over any list, the values told -/
theorem z_lcVF {a : Addr} {xs : List V} (f : Nat → V) {vs : List Nat} (h : H1 a = some (.lst xs)) (hn : xs.length ≤ 16777216)
    (hs : ∀ k x H (N : VK), xs[k]? = some x → Same H1 H → (∀ H4, Same H H4 → N (f k) H4) → wipe ((wipe σ vs).set i (some x)) vs = wipe σ vs ∧ te ((wipe σ vs).set i (some x)) H N)
    (k : ∀ D H', H1 D = none → Same H1 H' → H' D = some (.lst ((List.range xs.length).map f)) → Q (.ref D) H') : zLcL K (gName i) tYes te vs σ (.ref a) H1 Q := by
  refine ⟨a, rfl, ⟨_, SqL.of h⟩, ?_⟩
  refine z_lcF (walk_list (K := K) (a := a) (xs := xs)) f hn (fun H' s => SqL.of (s _ _ h)) (fun k x H H' N hk s y c => ?_) k
  obtain ⟨rfl, hx⟩ := y
  exact hs k x H' N hx s c
/-- over enumerate -/
def zLcE (K : Frag) (g : TG) (tt : TT) (te : TE) (vs : List Nat) (σ : L2.St) (xs : List V) (H1 : Hp) (Q : VK) : Prop := ∃ (k : Bool) (a : Addr) (ys : List V), xs = [.ref a] ∧ SqK K k H1 a ys ∧ zLc (ItE K k a ys) g tt te vs σ H1 Q
theorem z_lcES {g : TG} {tt : TT} {t : TA} {vs : List Nat} (q : t σ H1 fun xs H2 => zLcE K g tt te vs σ xs H2 Q) : tLc (iEnumM K t) g tt te vs σ H1 Q := q
theorem z_lcE {a : Addr} {k : Bool} {xs : List V} (f : Nat → V) {vs : List Nat} (h : ∀ H', Same H1 H' → SqK K k H' a xs) (hn : xs.length ≤ 16777216)
    (hs : ∀ (k : Nat) x H (N : VK), xs[k]? = some x → Same H1 H → (∀ H4, Same H H4 → N (f k) H4) → wipe (((wipe σ vs).set i (some (.int k))).set j (some x)) vs = wipe σ vs ∧ te (((wipe σ vs).set i (some (.int k))).set j (some x)) H N)
    (k : ∀ D H', H1 D = none → Same H1 H' → H' D = some (.lst ((List.range xs.length).map f)) → Q (.ref D) H') : zLcE K (gTup K 2 (gCons (gName i) (gCons (gName j) gNil))) tYes te vs σ [.ref a] H1 Q := by
  refine ⟨_, a, _, rfl, h _ (fun _ _ e => e), ?_⟩
  refine z_lcF (walk_enumM) f hn h (fun k x H H' N hk s y c => ?_) k
  obtain ⟨T, u, v, rfl, hT, rfl, hu, hv⟩ := y
  cases hu
  obtain ⟨z1, z2⟩ := hs k v (upd H T (.tup [.int k, v])) N hv (s.trans (Same.new hT)) (fun H4 s4 => c H4 ((Same.new hT).trans s4))
  exact z_gtup upd_same rfl ⟨_, _, rfl, _, _, rfl, rfl, z1, z2⟩
/-- over zip, lists and tuples -/
def zLcM (K : Frag) (g : TG) (tt : TT) (te : TE) (vs : List Nat) (σ : L2.St) (xs : List V) (H1 : Hp) (Q : VK) : Prop := ∃ (k1 k2 : Bool) (a b : Addr) (us ys : List V), xs = [.ref a, .ref b] ∧ SqK K k1 H1 a us ∧ SqK K k2 H1 b ys ∧ zLc (ItZ K k1 k2 a b us ys) g tt te vs σ H1 Q
theorem z_lcMS {g : TG} {tt : TT} {t : TA} {vs : List Nat} (q : t σ H1 fun xs H2 => zLcM K g tt te vs σ xs H2 Q) : tLc (iZipM K t) g tt te vs σ H1 Q := q
theorem z_lcM {a b : Addr} {k1 k2 : Bool} {us ys : List V} (f : Nat → V) {vs : List Nat} (h : ∀ H', Same H1 H' → SqK K k1 H' a us) (h2 : ∀ H', Same H1 H' → SqK K k2 H' b ys) {n : Nat} (hn : n = min us.length ys.length) (hm : n ≤ 16777216)
    (hs : ∀ (k : Nat) x y H (N : VK), us[k]? = some x → ys[k]? = some y → Same H1 H → (∀ H4, Same H H4 → N (f k) H4) → wipe (((wipe σ vs).set i (some x)).set j (some y)) vs = wipe σ vs ∧ te (((wipe σ vs).set i (some x)).set j (some y)) H N)
    (k : ∀ D H', H1 D = none → Same H1 H' → H' D = some (.lst ((List.range n).map f)) → Q (.ref D) H') : zLcM K (gTup K 2 (gCons (gName i) (gCons (gName j) gNil))) tYes te vs σ [.ref a, .ref b] H1 Q := by
  refine ⟨_, _, a, b, _, _, rfl, h _ (fun _ _ e => e), h2 _ (fun _ _ e => e), ?_⟩
  refine z_lcF (walk_zipM hn) f hm (fun H' s => ⟨h _ s, h2 _ s⟩) (fun k x H H' N hk s y c => ?_) k
  obtain ⟨T, u, v, rfl, hT, rfl, hu, hv⟩ := y
  obtain ⟨z1, z2⟩ := hs k u v (upd H T (.tup [u, v])) N hu hv (s.trans (Same.new hT)) (fun H4 s4 => c H4 ((Same.new hT).trans s4))
  exact z_gtup upd_same rfl ⟨_, _, rfl, _, _, rfl, rfl, z1, z2⟩
/-! loops over enumerate, zip, a range by steps -/
def zFoE (K : Frag) (g : TG) (tb : TS) (D : Ends) (σ : L2.St) (vs : List V) (H1 : Hp) : Prop := ∃ (k : Bool) (a : Addr) (xs : List V), vs = [.ref a] ∧ SqK K k H1 a xs ∧ ∃ W : Nat → Nat → L2.St → Hp → Prop, (∃ m, W 0 m σ H1) ∧ ∀ i m σ H, W i m σ H →
    ((ItE K k a xs).stop i H ∧ D.nx σ H) ∨ ((ItE K k a xs).go i H ∧ ∃ N : L2.St → Hp → Prop, (∀ σ' H', N σ' H' → ∃ m', m' < m ∧ W (i + 1) m' σ' H') ∧ ∀ x H', (ItE K k a xs).yld i H x H' → g x σ H' fun σ2 H2 => tb { D with nx := N, ct := N, bk := D.nx } σ2 H2)
theorem z_foES {g : TG} {tb : TS} {D : Ends} {t : TA} (q : t σ H1 fun vs H2 => zFoE K g tb D σ vs H2) : tFor (iEnumM K t) g tb D σ H1 := q
theorem z_foE {tb : TS} {D : Ends} {a : Addr} {k : Bool} {xs : List V} (I : Nat → L2.St → Hp → Prop) (h0 : I 0 σ H1) (hl : ∀ i σ H, I i σ H → SqK K k H a xs)
    (hs : ∀ (k : Nat) x σ H, xs[k]? = some x → I k σ H → ∀ H', Same H H' → tb { D with nx := I (k + 1), ct := I (k + 1), bk := D.nx } ((σ.set i (some (.int k))).set j (some x)) H') (hd : ∀ σ H, I xs.length σ H → D.nx σ H) :
    zFoE K (gTup K 2 (gCons (gName i) (gCons (gName j) gNil))) tb D σ [.ref a] H1 :=
  ⟨_, a, _, rfl, hl _ _ _ h0, for_it walk_enumM I h0 (fun k σ H _ p => hl k σ H p) (fun k x σ H H' _ p y => by
    obtain ⟨T, u, v, rfl, hT, rfl, hu, hv⟩ := y
    cases hu
    exact z_gtup upd_same rfl ⟨_, _, rfl, _, _, rfl, rfl, hs k v σ H hv p _ (Same.new hT)⟩) hd⟩
def zFo3 (g : TG) (tb : TS) (D : Ends) (σ : L2.St) (vs : List V) (H1 : Hp) : Prop := ∃ (a b c : Int) (n : Nat), vs = [.int a, .int b, .int c] ∧ RgC a b c n ∧ ∃ W : Nat → Nat → L2.St → Hp → Prop, (∃ m, W 0 m σ H1) ∧ ∀ k m σ H, W k m σ H →
    ((Itc a c n).stop k H ∧ D.nx σ H) ∨ ((Itc a c n).go k H ∧ ∃ N : L2.St → Hp → Prop, (∀ σ' H', N σ' H' → ∃ m', m' < m ∧ W (k + 1) m' σ' H') ∧ ∀ x H', (Itc a c n).yld k H x H' → g x σ H' fun σ2 H2 => tb { D with nx := N, ct := N, bk := D.nx } σ2 H2)
theorem z_fo3S {g : TG} {tb : TS} {D : Ends} {t : TA} (q : t σ H1 fun vs H2 => zFo3 g tb D σ vs H2) : tFor (iRng3 t) g tb D σ H1 := q
theorem z_fo3 {tb : TS} {D : Ends} {a b c : Int} {n : Nat} (hr : RgC a b c n) (I : Nat → L2.St → Hp → Prop) (h0 : I 0 σ H1)
    (hs : ∀ (k : Nat) σ H, k < n → I k σ H → tb { D with nx := I (k + 1), ct := I (k + 1), bk := D.nx } (σ.set i (some (.int (a + (k : Nat) * c)))) H) (hd : ∀ σ H, I n σ H → D.nx σ H) : zFo3 (gName i) tb D σ [.int a, .int b, .int c] H1 :=
  ⟨a, b, c, n, rfl, hr, for_it (walk_rangeC (lo := a) (c := c) (n := n)) I h0 (fun _ _ _ _ _ => trivial) (fun k x σ H H' hk p y => by
    obtain ⟨rfl, rfl⟩ := y
    exact hs k σ H' hk p) hd⟩
end
section
variable {K : Frag} {H : Hp} {Q : VK}
/-! sizes -/
theorem Bits.mul {a b : Nat} {i j : Int} (ha : Bits a i) (hb : Bits b j) : Bits (a + b) (i * j) := by
  unfold Bits at *
  rw [Int.natAbs_mul, Nat.pow_add]
  exact Nat.mul_lt_mul'' ha hb
theorem Bits.add {a : Nat} {i j : Int} (ha : Bits a i) (hb : Bits a j) : Bits (a + 1) (i + j) := by
  unfold Bits at *
  rw [Nat.pow_succ]
  omega
theorem Bits.sub {a : Nat} {i j : Int} (ha : Bits a i) (hb : Bits a j) : Bits (a + 1) (i - j) := by
  unfold Bits at *
  rw [Nat.pow_succ]
  omega
theorem Bits.neg {a : Nat} {i : Int} (ha : Bits a i) : Bits a (-i) := by
  unfold Bits at *
  omega
theorem Bits.up {a b : Nat} {i : Int} (h : Bits a i) (hb : a ≤ b) : Bits b i := bits_up h hb
theorem Bits.zero {a : Nat} : Bits a 0 := Nat.two_pow_pos a
theorem Bits.le {a : Nat} {i j : Int} (h : Bits a j) (hi : i.natAbs ≤ j.natAbs) : Bits a i := Nat.lt_of_le_of_lt hi h
theorem Bits.small {i : Int} {n : Nat} (h1 : -(1 <<< n : Nat) < i) (h2 : i < (1 <<< n : Nat)) : Bits n i := by
  unfold Bits
  rw [Nat.one_shiftLeft] at h1 h2
  omega
theorem Bits.div {a : Nat} {i j : Int} (h : Bits a i) : Bits a (i / j) := by
  refine h.le ?_
  have := Int.natAbs_ediv_le_natAbs i j
  exact this
theorem Bits.gcd {a : Nat} {i j : Int} (h : Bits a j) (h0 : j ≠ 0) : Bits a ((Int.gcd i j : Nat) : Int) := by
  refine h.le ?_
  rw [Int.natAbs_natCast]
  exact Nat.le_of_dvd (by omega) (Int.gcd_dvd_natAbs_right ..)
theorem Bits.mod {a : Nat} {i j : Int} (h : Bits a j) (h0 : 0 < j) : Bits a (i % j) := by
  refine h.le ?_
  have := Int.emod_nonneg i (show j ≠ 0 by omega)
  have := Int.emod_lt_of_pos i h0
  omega
theorem Bits.shl {a n : Nat} {i : Int} (h : Bits a i) : Bits (a + n) (i * 2 ^ n) := by
  unfold Bits at *
  rw [Int.natAbs_mul, Nat.pow_add]
  have e : ((2 : Int) ^ n).natAbs = 2 ^ n := by rw [Int.natAbs_pow]; rfl
  rw [e]
  exact Nat.mul_lt_mul_of_pos_right h (Nat.two_pow_pos n)
theorem z_repB {i j : Int} {a b : Nat} (ha : Bits a i) (hb : Bits b j) (h0 : 0 < a) (h1 : 0 < b) (h : a + b ≤ 1000000) (q : Q (.int (i * j)) H) : zRep (.int i) (.int j) H Q := .inl (z_mulB ha hb h0 h1 h q)
end
end Z

set_option maxHeartbeats 4000000
/-! defs at any address (staticmethods), read by one look; their calls -/
namespace Z
open PySem PySem.Spec PyProof.Rows L2
def seenK2 (fb : List Chk) (fn : List He5.DefA) (K : Frag) : SeenZ := ((fb.all fun c => c K) && fn.all fun d => d.ok K, fn.map fun d => He5.fnA K (d.at_ K))
def dueK2 (fn : List He5.DefA) : SeenZ := (true, fn.map He5.DefA.val)
def Says2 (fb : List Chk) (fn : List He5.DefA) (K : Frag) : Prop := seenK2 fb fn K = dueK2 fn
def seenG2 (n : Nat) (fb : List Chk) (fn : List He5.DefA) (g : Addr → Option Obj) : SeenZ := seenK2 fb fn (He.frG g (He5.asA g n))
def hookZ2 (n : Nat) (fb : List Chk) (fn : List He5.DefA) : PySem.W.Hook where
  α := SeenZ
  val := fun _ => dueK2 fn
  obs := fun st => seenG2 n fb fn st.heap.get?
  says := fun _ hp => ∃ K : Frag, K.In hp ∧ Says2 fb fn K
  keeps := fun _ _ _ ⟨K, hin, c⟩ kp => ⟨K, PySem.W.Frag.In.keeps hin kp, c⟩
  of := fun _ _ eq => ⟨_, He.frG_in, eq⟩
theorem seenG2_eq {n : Nat} {fb : List Chk} {fn : List He5.DefA} {g : Addr → Option Obj} {st : Shared} (h : ∀ a, g a = st.heap.get? a) : seenG2 n fb fn g = (hookZ2 n fb fn).obs st := by
  rw [show g = st.heap.get? from funext h] <;> rfl
section
variable {fb : List Chk} {fn : List He5.DefA} {K : Frag}
theorem Says2.fact (c : Says2 fb fn K) (i : Nat) {f : Chk} (h : fb[i]? = some f := by rfl) : f K = true := by
  have q := (He.ba (congrArg (fun z : SeenZ => z.1) c)).1
  exact List.all_eq_true.mp q f (List.mem_of_getElem? h)
theorem Says2.def_ (c : Says2 fb fn K) (i : Nat) {d : He5.DefA} (h : fn[i]? = some d := by rfl) : ∃ fd, FunD K d.name d.qual d.params d.body d.scope (d.dvs K) (d.kws K) (d.at_ K) fd := by
  have q := (He.ba (congrArg (fun z : SeenZ => z.1) c)).2
  have e : fn.map (fun d => He5.fnA K (d.at_ K)) = fn.map He5.DefA.val := congrArg (fun z : SeenZ => z.2) c
  have e2 := congrArg (fun l => l[i]?) e
  simp only [List.getElem?_map, h, Option.map_some] at e2
  exact He5.DefA.funD (Option.some.inj e2) (List.all_eq_true.mp q d (List.mem_of_getElem? h))
end
structure LwB (fb : List Chk) (fn : List He5.DefA) (K : Frag) (mg : Str → Option Value) : Prop where
  at_ : ∃ h : Heap, K.In h ∧ h.Ns mainGlobals mg
  c : Says2 fb fn K
/-- a class whose attributes are read by their names; a staticmethod of it -/
def cRead (x : Str) : Chk := fun K => PySem.W.readsIn K (He.ga K x) (.type "type") && He.eqO (PySem.W.specialIn K (.ref (He.ga K x)) "__getattribute__") (some (some (.builtin "type.__getattribute__")))
theorem cread_ok {K : Frag} {x : Str} (h : cRead x K = true) : ClX.CRead K (He.ga K x) (.type "type") := by
  obtain ⟨h1, h2⟩ := He.ba h
  exact ⟨h1, He.eqO_ok h2⟩
def cStat (x m : Str) : Chk := fun K => He5.wrapB K (He.ga K x) "staticmethod" "staticmethod.__get__" m
/-- C.m is a staticmethod: its record at p, its def at f -/
structure SMet (K : Frag) (C : Addr) (m : Str) (p f : Addr) : Prop where
  at_ : PySem.W.findCls K (.ref C) (.type "type") m = some (.get (.builtin "staticmethod.__get__") (.ref p) .none (.ref C))
  rc : ∃ rest, PySem.W.recIn K p "staticmethod" = some (.ref f :: rest)
theorem smet_ok {K : Frag} {x m : Str} (h : cStat x m K = true) : SMet K (He.ga K x) m (He.ma K (He.ga K x) m) (He5.wf K (He.ga K x) "staticmethod" m) := by
  obtain ⟨h1, h2⟩ := He5.wrapB_ok h
  exact ⟨h1, h2⟩
structure Sta (P : Program) (w : World) (K : Frag) (mg : Str → Option Value) (base : Heap) (k : Nat) (C : Addr) (m : Str) (sp : Sp) (dvs : List V) : Prop where
  ex : ∃ (p f : Addr) (fd : FuncData) (ps : List Str) (ds : List Value), ClX.CRead K C (.type "type") ∧ SMet K C m p f ∧ FnOk P w K mg base (L2N.CX P w) k f fd ps sp ∧ PySem.W.keepIn K (.ref f) = true ∧ Binds K fd ps ds ∧ Vals dvs ds
/-- C.m(..), m a staticmethod of C -/
def tStaW (C : Addr) (sp : Sp) (dvs : List V) (W : WX) (ta : TE) (t : TA) : TE := fun σ H Q => ta σ H fun x H1 => x = .ref C ∧ t σ H1 fun vs H2 => sp (vs ++ dvs) H2 Q (fun cls d H' => W cls d σ H')
section
variable {X : Cx} {k j : Nat} {C : Addr} {sp : Sp} {dvs : List V} {W : WX} {m : Str} {pos apos : Pos} {e o : Expr} {es : List Expr} {ta : TE} {t : TA}
theorem pe_sm {pl : Sem Bool} (c : Sta X.prog X.w X.K X.mg X.base k C m sp dvs) (hr : Room j X.A) (hk : k ≤ j) (tk : L2N.Takes X W) (ho : PE X o ta) (ha : PA X (e :: es) t)
    (hst : starEach (e :: es) X.env = (false, eval e X.env) :: starEach es X.env := by rfl) (hpl : (backTo pos (starEach es X.env)).any (·.1) = false := by rfl)
    (ht : eval (.Call (.Attribute o m apos) (e :: es) [] pos) X.env = (do
      let ov ← eval o X.env; standAt apos.atName
      let (f, first) ← holding [ov] (getMethod ov m pl); callWith pos f first (backTo pos (starEach (e :: es) X.env)) (backToKw pos (keywordEach [] X.env))) := by rfl) :
    PE X (.Call (.Attribute o m apos) (e :: es) [] pos) (tStaW C sp dvs W ta t) := by
  obtain ⟨p, f, fd, ps, ds, rd, sm, F, kp, b, d⟩ := c.ex
  obtain ⟨rest, hp⟩ := sm.rc
  refine ⟨fun pi s0 sl H0 Q0 J h0 => ?_⟩
  refine PySem.W.methodCall_KW (pl := pl) (thn (ho.run pi s0 sl H0 _ J h0) fun u s1 ⟨y, H1, J1, ry, ey, q⟩ => ?_) ht
  subst ey
  obtain rfl : u = Value.ref C := ry
  refine PySem.W.method_cls J1.kIn rd.ga (PySem.W.cls_bind J1.kIn rd.rd sm.at_ (wpAny_call (PySem.W.sm_get (s := { s1 with toks := s1.toks + 1 }) J1.kIn hp (PySem.W.handed_on rfl ?_))))
  have J2 : Inv X pi sl H1 { s1 with toks := s1.toks + 1 } := J1.tok _
  refine PySem.W.callWith_K (first := []) (h₀ := X.base) J.ok.mod.kin kp (thn (ha.run pos pi _ sl H1 _ J2 q) fun us s2 ⟨xs, H2, J3, r, q2⟩ => ⟨J3.kIn, ?_⟩) hst hpl
  exact run_fnSD (E := fun σ cls d H => W cls d σ H) F (hr.mono hk) b d (passW tk sl) J3 r q2
theorem pe_sm0 {pl : Sem Bool} (c : Sta X.prog X.w X.K X.mg X.base k C m sp dvs) (hr : Room j X.A) (hk : k ≤ j) (tk : L2N.Takes X W) (ho : PE X o ta)
    (ht : eval (.Call (.Attribute o m apos) [] [] pos) X.env = (do
      let ov ← eval o X.env; standAt apos.atName
      let (f, first) ← holding [ov] (getMethod ov m pl); callWith pos f first (backTo pos (starEach [] X.env)) (backToKw pos (keywordEach [] X.env))) := by rfl) :
    PE X (.Call (.Attribute o m apos) [] [] pos) (tStaW C sp dvs W ta tNil) := by
  obtain ⟨p, f, fd, ps, ds, rd, sm, F, kp, b, d⟩ := c.ex
  obtain ⟨rest, hp⟩ := sm.rc
  refine ⟨fun pi s0 sl H0 Q0 J h0 => ?_⟩
  refine PySem.W.methodCall_KW (pl := pl) (thn (ho.run pi s0 sl H0 _ J h0) fun u s1 ⟨y, H1, J1, ry, ey, q⟩ => ?_) ht
  subst ey
  obtain rfl : u = Value.ref C := ry
  refine PySem.W.method_cls J1.kIn rd.ga (PySem.W.cls_bind J1.kIn rd.rd sm.at_ (wpAny_call (PySem.W.sm_get (s := { s1 with toks := s1.toks + 1 }) J1.kIn hp (PySem.W.handed_on rfl ?_))))
  have J2 : Inv X pi sl H1 { s1 with toks := s1.toks + 1 } := J1.tok _
  exact PySem.W.callWith_K0 (first := []) J2.kIn kp (run_fnSD (us := []) (E := fun σ cls d H => W cls d σ H) F (hr.mono hk) b d (passW tk sl) J2 .nil q)
end
section
variable {K : Frag} {σ : L2.St} {H : Hp} {Q : VK} {ta : TE} {t : TA} {sp : Sp} {dvs : List V} {W : WX} {C : Addr}
def zSta (C : Addr) (x : V) (R : Prop) : Prop := x = .ref C ∧ R
theorem z_sta (q : ta σ H fun x H1 => zSta C x (t σ H1 fun vs H2 => sp (vs ++ dvs) H2 Q (fun cls d H' => W cls d σ H'))) : tStaW C sp dvs W ta t σ H Q := q
theorem z_sta1 {R : Prop} (q : R) : zSta C (.ref C) R := ⟨rfl, q⟩
end
end Z

set_option maxHeartbeats 4000000
/-! one look behind the top, taken in parts -/
namespace Z
open PySem PySem.Spec PyProof.Rows L2
theorem map_three {α β γ δ : Type} {o : Option α} {f : α → β} {g : α → γ} {h : α → δ} {a : β} {b : γ} {c : δ} (h1 : o.map f = some a) (h2 : o.map g = some b) (h3 : o.map h = some c) : o.map (fun x => (f x, g x, h x)) = some (a, b, c) := by
  cases o with
  | none => cases h1
  | some x =>
    cases h1
    cases h2
    cases h3
    rfl
theorem seen_both {α : Type} {o : Option α} {g : α → Addr → Option Obj} {n : Nat} {fb1 fb2 : List Chk} {fn1 fn2 : List He5.DefA} (h1 : o.map (fun x => seenG2 n fb1 fn1 (g x)) = some (dueK2 fn1)) (h2 : o.map (fun x => seenG2 n fb2 fn2 (g x)) = some (dueK2 fn2)) :
    o.map (fun x => seenG2 n (fb1 ++ fb2) (fn1 ++ fn2) (g x)) = some (dueK2 (fn1 ++ fn2)) := by
  cases o with
  | none => cases h1
  | some x =>
    have e1 : seenG2 n fb1 fn1 (g x) = dueK2 fn1 := Option.some.inj h1
    have e2 : seenG2 n fb2 fn2 (g x) = dueK2 fn2 := Option.some.inj h2
    show some (seenG2 n (fb1 ++ fb2) (fn1 ++ fn2) (g x)) = _
    unfold seenG2 seenK2 dueK2 at *
    have a1 := congrArg (fun z : SeenZ => z.1) e1
    have a2 := congrArg (fun z : SeenZ => z.1) e2
    have b1 := congrArg (fun z : SeenZ => z.2) e1
    have b2 := congrArg (fun z : SeenZ => z.2) e2
    dsimp only at a1 a2 b1 b2
    obtain ⟨c1, c2⟩ := He.ba a1
    obtain ⟨d1, d2⟩ := He.ba a2
    rw [List.all_append, List.all_append, List.map_append, List.map_append, c1, c2, d1, d2, b1, b2]
    rfl
end Z

set_option maxHeartbeats 4000000
/-! comprehensions and loops over tuples; an own operator's reading; Ratios' lcm -/
namespace Z
open PySem PySem.Spec PyProof.Rows L2
section
variable {K : Frag} {σ : L2.St} {H1 : Hp} {Q : VK} {te : TE} {i j : Nat}
def zLcT (K : Frag) (g : TG) (tt : TT) (te : TE) (vs : List Nat) (σ : L2.St) (x : V) (H1 : Hp) (Q : VK) : Prop := ∃ a, x = .ref a ∧ (∃ xs, SqT K H1 a xs) ∧ zLc (Itt K a) g tt te vs σ H1 Q
theorem z_lcTS {g : TG} {tt : TT} {t : TE} {vs : List Nat} (q : t σ H1 fun x H2 => zLcT K g tt te vs σ x H2 Q) : tLc (iTup K t) g tt te vs σ H1 Q := q
theorem z_lcTP {a : Addr} {xs : List V} (It : Hp → V → Nat → Prop) (m : Mono It) {vs : List Nat} (h : H1 a = some (.tup xs)) (hn : xs.length ≤ 16777216)
    (hs : ∀ k x H (N : VK), xs[k]? = some x → Same H1 H → (∀ y H4, Same H H4 → It H4 y k → N y H4) → wipe ((wipe σ vs).set i (some x)) vs = wipe σ vs ∧ te ((wipe σ vs).set i (some x)) H N)
    (k : ∀ D H', H1 D = none → Same H1 H' → Ls H' D xs.length It → Q (.ref D) H') : zLcT K (gName i) tYes te vs σ (.ref a) H1 Q := by
  refine ⟨a, rfl, ⟨_, SqT.of h⟩, ?_⟩
  refine z_lcP (walk_tup (K := K) (a := a) (xs := xs)) It m hn (fun H' s => SqT.of (s _ _ h)) (fun k x H H' N hk s y c => ?_) k
  obtain ⟨rfl, hx⟩ := y
  exact hs k x H' N hx s c
theorem z_lcTF {a : Addr} {xs : List V} (f : Nat → V) {vs : List Nat} (h : H1 a = some (.tup xs)) (hn : xs.length ≤ 16777216)
    (hs : ∀ k x H (N : VK), xs[k]? = some x → Same H1 H → (∀ H4, Same H H4 → N (f k) H4) → wipe ((wipe σ vs).set i (some x)) vs = wipe σ vs ∧ te ((wipe σ vs).set i (some x)) H N)
    (k : ∀ D H', H1 D = none → Same H1 H' → H' D = some (.lst ((List.range xs.length).map f)) → Q (.ref D) H') : zLcT K (gName i) tYes te vs σ (.ref a) H1 Q := by
  refine ⟨a, rfl, ⟨_, SqT.of h⟩, ?_⟩
  refine z_lcF (walk_tup (K := K) (a := a) (xs := xs)) f hn (fun H' s => SqT.of (s _ _ h)) (fun k x H H' N hk s y c => ?_) k
  obtain ⟨rfl, hx⟩ := y
  exact hs k x H' N hx s c
/-- a loop over a tuple -/
def zFoT (K : Frag) (g : TG) (tb : TS) (D : Ends) (σ : L2.St) (x : V) (H1 : Hp) : Prop := ∃ a, x = .ref a ∧ (∃ xs, SqT K H1 a xs) ∧ ∃ W : Nat → Nat → L2.St → Hp → Prop, (∃ m, W 0 m σ H1) ∧ ∀ k m σ H, W k m σ H →
    ((Itt K a).stop k H ∧ D.nx σ H) ∨ ((Itt K a).go k H ∧ ∃ N : L2.St → Hp → Prop, (∀ σ' H', N σ' H' → ∃ m', m' < m ∧ W (k + 1) m' σ' H') ∧ ∀ x H', (Itt K a).yld k H x H' → g x σ H' fun σ2 H2 => tb { D with nx := N, ct := N, bk := D.nx } σ2 H2)
theorem z_foTS {g : TG} {tb : TS} {D : Ends} {t : TE} (q : t σ H1 fun x H2 => zFoT K g tb D σ x H2) : tFor (iTup K t) g tb D σ H1 := q
theorem z_foT {g : TG} {tb : TS} {D : Ends} {a : Addr} {xs : List V} (h : H1 a = some (.tup xs)) (I : Nat → L2.St → Hp → Prop) (h0 : I 0 σ H1) (hl : ∀ k σ H, I k σ H → H a = some (.tup xs))
    (hs : ∀ k x σ H, xs[k]? = some x → I k σ H → g x σ H fun σ2 H2 => tb { D with nx := I (k + 1), ct := I (k + 1), bk := D.nx } σ2 H2) (hd : ∀ σ H, I xs.length σ H → D.nx σ H) : zFoT K g tb D σ (.ref a) H1 :=
  ⟨a, rfl, ⟨_, SqT.of h⟩, for_it (walk_tup (K := K) (a := a) (xs := xs)) I h0 (fun k σ H _ p => SqT.of (hl k σ H p)) (fun k x σ H H' _ p y => by
    obtain ⟨rfl, hx⟩ := y
    exact hs k x σ H' hx p) hd⟩
/-- an own operator of two instances -/
theorem z_own2 {r : R2} {C : Addr} {sp : Sp} {E : XK} {a b dx dy : Addr} {fs gs : List (Str × V)} {H : Hp} (h1 : H a = some (.ins C dx fs)) (h2 : H b = some (.ins C dy gs)) (q : sp [.ref a, .ref b] H (fun v H' => (∃ q, v = .ref q) ∧ Q v H') E) : rOr r (rOwn2 C sp E) (.ref a) (.ref b) H Q :=
  .inr ⟨a, b, dx, dy, fs, gs, rfl, rfl, h1, h2, q⟩
/-- lcm of two numbers -/
theorem z_lcm {H : Hp} {a b : Int} {B C : Nat} (ha : Bits B a) (hb : Bits C b) (h1 : B ≤ 6000) (h2 : C ≤ 6000) (q : Q (.int ((Nat.lcm a.natAbs b.natAbs : Nat) : Int)) H) : rLcm [.int a, .int b] H Q :=
  ⟨a, b, rfl, Nat.lt_of_lt_of_le ha (Nat.pow_le_pow_right (by decide) h1), Nat.lt_of_lt_of_le hb (Nat.pow_le_pow_right (by decide) h2), q⟩
theorem lcm_facts {a b : Int} (ha : 0 < a) (hb : 0 < b) : 0 < ((Nat.lcm a.natAbs b.natAbs : Nat) : Int) ∧ a ∣ ((Nat.lcm a.natAbs b.natAbs : Nat) : Int) ∧ b ∣ ((Nat.lcm a.natAbs b.natAbs : Nat) : Int) ∧ ∀ B C, Bits B a → Bits C b → Bits (B + C) ((Nat.lcm a.natAbs b.natAbs : Nat) : Int) := by
  have p : 0 < Nat.lcm a.natAbs b.natAbs := Nat.lcm_pos (by omega) (by omega)
  refine ⟨by omega, ?_, ?_, fun B C h1 h2 => ?_⟩
  · rw [← Int.natAbs_dvd]
    exact_mod_cast Nat.dvd_lcm_left _ _
  · rw [← Int.natAbs_dvd]
    exact_mod_cast Nat.dvd_lcm_right _ _
  · refine (h1.mul h2).le ?_
    rw [Int.natAbs_natCast, Int.natAbs_mul]
    exact Nat.div_le_self _ _
theorem z_shl {H : Hp} {i j : Int} {n : Nat} {B : Nat} (e : j = (n : Int)) (h : Bits B i) (hb : B + n ≤ 900000) (q : Q (.int (i * 2 ^ n)) H) : rI CShl (fun i j => .int (i * 2 ^ j.toNat)) (.int i) (.int j) H Q := by
  subst e
  exact ⟨i, _, rfl, rfl, shl_ok h (by omega), by
    show Q (V.int (i * 2 ^ (n : Int).toNat)) H
    rw [Int.toNat_natCast]
    exact q⟩
end
end Z

set_option maxHeartbeats 4000000
/-! plain mathematics of k31: numbers by places, times 1 + x again and again -/
namespace S31
/-- the number at a place -/
def cf (xs : List Int) (k : Nat) : Int := xs.getD k 0
def tp (f : Nat → Int) : Nat → Int := fun k => (if k = 0 then 0 else f (k - 1)) + f k
def tpn (f : Nat → Int) : Nat → Nat → Int
  | 0 => f
  | n + 1 => tp (tpn f n)
def NN (f : Nat → Int) (n : Nat) : Prop := ∀ k, 0 ≤ tpn f n k
/-- r is the first power up to most, or there is none -/
def LP (f : Nat → Int) (most : Nat) (r : Option Nat) : Prop := (r = none ∧ ∀ j, j ≤ most → ¬ NN f j) ∨ ∃ n, n ≤ most ∧ r = some n ∧ NN f n ∧ ∀ j, j < n → ¬ NN f j
theorem lp_one {f : Nat → Int} {most : Nat} {r s : Option Nat} (h : LP f most r) (h' : LP f most s) : r = s := by
  rcases h with ⟨rfl, h⟩ | ⟨n, n1, rfl, n2, n3⟩ <;> rcases h' with ⟨rfl, h'⟩ | ⟨m, m1, rfl, m2, m3⟩
  · rfl
  · exact absurd m2 (h m m1)
  · exact absurd n2 (h' n n1)
  · have : n = m := by
      by_cases q : n < m
      · exact absurd n2 (m3 n q)
      · by_cases q' : m < n
        · exact absurd m2 (n3 m q')
        · omega
    rw [this]
theorem cf_nil {k : Nat} : cf [] k = 0 := by simp [cf]
theorem cf_out {xs : List Int} {k : Nat} (h : xs.length ≤ k) : cf xs k = 0 := by simp [cf, List.getD_eq_getElem?_getD, h]
theorem cf_in {xs : List Int} {k : Nat} (h : k < xs.length) : cf xs k = xs[k] := by simp [cf, List.getD_eq_getElem?_getD, h]
theorem cf_cons {x : Int} {xs : List Int} {k : Nat} : cf (x :: xs) k = if k = 0 then x else cf xs (k - 1) := by
  cases k with
  | zero => simp [cf]
  | succ k => simp [cf]
theorem cf_app0 {xs : List Int} {k : Nat} : cf (xs ++ [0]) k = cf xs k := by
  by_cases h : k < xs.length
  · rw [cf_in h, cf_in (by simp; omega), List.getElem_append_left h]
  · rw [cf_out (xs := xs) (by omega)]
    by_cases h2 : k = xs.length
    · subst h2
      simp [cf]
    · exact cf_out (by simp; omega)
theorem cf_map {xs : List Int} {g : Int → Int} {k : Nat} (g0 : g 0 = 0) : cf (xs.map g) k = g (cf xs k) := by
  by_cases h : k < xs.length
  · rw [cf_in h, cf_in (by simpa using h), List.getElem_map]
  · rw [cf_out (xs := xs) (by omega), cf_out (by rw [List.length_map]; omega), g0]
def stp (xs : List Int) : List Int := List.zipWith (fun a b => a + b) (0 :: xs) (xs ++ [0])
theorem stp_len {xs : List Int} : (stp xs).length = xs.length + 1 := by simp [stp]
theorem cf_stp {xs : List Int} {k : Nat} : cf (stp xs) k = tp (cf xs) k := by
  by_cases h : k < xs.length + 1
  · rw [cf_in (by rw [stp_len]; exact h)]
    unfold stp
    rw [List.getElem_zipWith]
    unfold tp
    rw [← cf_app0 (xs := xs) (k := k), cf_in (xs := xs ++ [0]) (k := k) (by simp; omega)]
    congr 1
    have e := cf_cons (x := 0) (xs := xs) (k := k)
    rw [cf_in (by simp; omega)] at e
    exact e
  · rw [cf_out (by rw [stp_len]; omega)]
    unfold tp
    rw [cf_out (xs := xs) (k := k) (by omega), if_neg (by omega), cf_out (by omega)]
    rfl
theorem tp_congr {f g : Nat → Int} (h : ∀ k, f k = g k) (k : Nat) : tp f k = tp g k := by
  have : f = g := funext h
  rw [this]
/-- nonneg, by the list -/
theorem nn_list {xs : List Int} {f : Nat → Int} {n : Nat} (h : ∀ k, cf xs k = tpn f n k) : NN f n ↔ ∀ v, v ∈ xs → 0 ≤ v := by
  constructor
  · intro q v hv
    obtain ⟨k, hk, rfl⟩ := List.mem_iff_getElem.mp hv
    rw [← cf_in hk, h]
    exact q k
  · intro q k
    rw [← h]
    by_cases hk : k < xs.length
    · rw [cf_in hk]
      exact q _ (List.getElem_mem hk)
    · rw [cf_out (by omega)]
      exact Int.le_refl _
theorem tpn_scale {f g : Nat → Int} {c : Int} (h : ∀ k, f k = c * g k) : ∀ n k, tpn f n k = c * tpn g n k
  | 0, k => h k
  | n + 1, k => by
    show tp (tpn f n) k = c * tp (tpn g n) k
    unfold tp
    rw [tpn_scale h n k, Int.mul_add]
    split
    · rw [Int.mul_zero]
    · rw [tpn_scale h n (k - 1)]
theorem nn_scale {f g : Nat → Int} {c : Int} (hc : 0 < c) (h : ∀ k, f k = c * g k) (n : Nat) : NN f n ↔ NN g n := by
  constructor
  · intro q k
    have := q k
    rw [tpn_scale h] at this
    exact Int.nonneg_of_mul_nonneg_right this hc
  · intro q k
    rw [tpn_scale h]
    exact Int.mul_nonneg (by omega) (q k)
theorem lp_scale {f g : Nat → Int} {c : Int} {most : Nat} {r : Option Nat} (hc : 0 < c) (h : ∀ k, f k = c * g k) (p : LP g most r) : LP f most r := by
  rcases p with ⟨e, q⟩ | ⟨n, n1, e, n2, n3⟩
  · exact .inl ⟨e, fun j hj => (fun z => q j hj ((nn_scale hc h j).mp z))⟩
  · exact .inr ⟨n, n1, e, (nn_scale hc h n).mpr n2, fun j hj z => n3 j hj ((nn_scale hc h j).mp z)⟩
/-- in lowest terms: a factor and zeros at the end left out -/
def Low (ns ls : List Int) : Prop := ls.length ≤ ns.length ∧ ∃ c : Int, 0 < c ∧ ∀ k, cf ns k = c * cf ls k
theorem Low.lp {ns ls : List Int} {most : Nat} {r : Option Nat} (h : Low ns ls) (p : LP (cf ls) most r) : LP (cf ns) most r := by
  obtain ⟨_, c, c0, h⟩ := h
  exact lp_scale c0 h p
/-- the common divisor -/
def gl (c : Int) (ns : List Int) : Int := ns.foldl (fun c n => ((Int.gcd c n : Nat) : Int)) c
theorem gl_snoc {c n : Int} {ns : List Int} : gl c (ns ++ [n]) = ((Int.gcd (gl c ns) n : Nat) : Int) := by simp [gl]
theorem gl_pos {c : Int} (hc : 0 < c) : ∀ ns : List Int, 0 < gl c ns ∧ gl c ns ≤ c ∧ gl c ns ∣ c ∧ ∀ n ∈ ns, gl c ns ∣ n := by
  intro ns
  induction ns generalizing c with
  | nil => exact ⟨hc, Int.le_refl _, Int.dvd_refl _, fun n h => by cases h⟩
  | cons x xs ih =>
    have g0 : 0 < ((Int.gcd c x : Nat) : Int) := by
      have := Int.gcd_pos_of_ne_zero_left x (show c ≠ 0 by omega)
      omega
    obtain ⟨i1, i2, i3, i4⟩ := ih g0
    have d1 : ((Int.gcd c x : Nat) : Int) ∣ c := Int.gcd_dvd_left ..
    have d2 : ((Int.gcd c x : Nat) : Int) ∣ x := Int.gcd_dvd_right ..
    have le := Int.le_of_dvd hc d1
    refine ⟨i1, Int.le_trans i2 le, Int.dvd_trans i3 d1, fun n h => ?_⟩
    rcases List.mem_cons.mp h with rfl | h
    · exact Int.dvd_trans i3 d2
    · exact i4 n h
theorem low_of {ns : List Int} {s : Nat} {o : Int} (ho : 0 < o) (hs : s ≤ ns.length) (hz : ∀ k, s ≤ k → cf ns k = 0) : Low ns ((ns.take s).map fun n => n / gl o (ns.take s)) := by
  obtain ⟨g0, _, _, gd⟩ := gl_pos ho (ns.take s)
  refine ⟨by simp; omega, _, g0, fun k => ?_⟩
  by_cases h : k < s
  · have h1 : k < ns.length := by omega
    have h2 : k < (ns.take s).length := by simp; omega
    rw [cf_map (g := fun n => n / gl o (ns.take s)) (Int.zero_ediv _), cf_in h1, cf_in h2, List.getElem_take]
    have : gl o (ns.take s) ∣ ns[k] := gd _ (by
      have := List.getElem_mem h2
      rwa [List.getElem_take] at this)
    rw [Int.mul_comm, Int.ediv_mul_cancel this]
  · rw [hz k (by omega), cf_out (by simp; omega), Int.mul_zero]
/-- no power will do -/
def Bad (f : Nat → Int) : Prop := ∀ n, ¬ NN f n
theorem Bad.lp {f : Nat → Int} {most : Nat} {r : Option Nat} (b : Bad f) (p : LP f most r) : r = none := by
  rcases p with ⟨e, _⟩ | ⟨n, _, _, q, _⟩
  · exact e
  · exact absurd q (b n)
/-- a greater bound -/
theorem lp_more {f : Nat → Int} {a b n : Nat} (h : LP f a (some n)) (hb : a ≤ b) : LP f b (some n) := by
  rcases h with ⟨e, _⟩ | ⟨m, m1, e, m2, m3⟩
  · cases e
  · exact .inr ⟨m, by omega, e, m2, m3⟩
/-- a lesser bound -/
theorem lp_less {f : Nat → Int} {a b : Nat} {r : Option Nat} (h : LP f a r) (hb : b ≤ a) : LP f b (match r with | none => none | some n => if b < n then none else some n) := by
  rcases h with ⟨rfl, h⟩ | ⟨m, m1, rfl, m2, m3⟩
  · exact .inl ⟨rfl, fun j hj => h j (by omega)⟩
  · by_cases c : b < m
    · simp only [c, if_true]
      exact .inl ⟨rfl, fun j hj => m3 j (by omega)⟩
    · simp only [c, if_false]
      exact .inr ⟨m, by omega, rfl, m2, m3⟩
end S31

set_option maxHeartbeats 4000000
/-! where no power will do; the power of a narrow polynomial -/
namespace S31
/-! products by places -/
def cv (f g : Nat → Int) (m : Nat) : Nat → Int
  | 0 => 0
  | J + 1 => cv f g m J + (if J ≤ m then f J * g (m - J) else 0)
/-- the value at x of the first N places -/
def E (f : Nat → Int) (x : Rat) : Nat → Rat
  | 0 => 0
  | N + 1 => E f x N + (f N : Rat) * x ^ N
theorem icz : ((0 : Int) : Rat) = 0 := rfl
theorem pow_add' {x : Rat} (a : Nat) : ∀ b, x ^ (a + b) = x ^ a * x ^ b
  | 0 => by rw [Nat.add_zero, Rat.pow_zero]; grind
  | b + 1 => by rw [← Nat.add_assoc, Rat.pow_succ, pow_add' a b, Rat.pow_succ]; grind
theorem E_congr {f g : Nat → Int} {x : Rat} : ∀ {N}, (∀ k, k < N → f k = g k) → E f x N = E g x N
  | 0, _ => rfl
  | N + 1, h => by
    show E f x N + (f N : Rat) * x ^ N = E g x N + (g N : Rat) * x ^ N
    rw [E_congr fun k hk => h k (by omega), h N (by omega)]
theorem E_add {f g : Nat → Int} {x : Rat} : ∀ {N}, E (fun k => f k + g k) x N = E f x N + E g x N
  | 0 => by
    show (0 : Rat) = 0 + 0
    grind
  | N + 1 => by
    show E (fun k => f k + g k) x N + ((f N + g N : Int) : Rat) * x ^ N = (E f x N + (f N : Rat) * x ^ N) + (E g x N + (g N : Rat) * x ^ N)
    rw [E_add, Rat.intCast_add]
    grind
theorem E_zero {f : Nat → Int} {x : Rat} : ∀ {N}, (∀ k, k < N → f k = 0) → E f x N = 0
  | 0, _ => rfl
  | N + 1, h => by
    show E f x N + (f N : Rat) * x ^ N = 0
    rw [E_zero fun k hk => h k (by omega), h N (by omega), icz]
    grind
theorem E_supp {f : Nat → Int} {x : Rat} {a : Nat} (h : ∀ k, a ≤ k → f k = 0) : ∀ n, E f x (a + n) = E f x a
  | 0 => rfl
  | n + 1 => by
    show E f x (a + n) + (f (a + n) : Rat) * x ^ (a + n) = E f x a
    rw [E_supp h n, h (a + n) (by omega), icz]
    grind
theorem E_shift {g : Nat → Int} {a : Int} {J : Nat} {x : Rat} : ∀ n, E (fun m => if J ≤ m then a * g (m - J) else 0) x (J + n) = (a : Rat) * x ^ J * E g x n
  | 0 => by
    rw [Nat.add_zero, E_zero fun k hk => if_neg (by omega)]
    show (0 : Rat) = (a : Rat) * x ^ J * 0
    grind
  | n + 1 => by
    show E _ x (J + n) + (((if J ≤ J + n then a * g (J + n - J) else 0) : Int) : Rat) * x ^ (J + n) = (a : Rat) * x ^ J * (E g x n + (g n : Rat) * x ^ n)
    rw [E_shift n, if_pos (by omega), Nat.add_sub_cancel_left, Rat.intCast_mul, pow_add']
    grind
theorem E_cv {f g : Nat → Int} {x : Rat} {b : Nat} (hg : ∀ k, b ≤ k → g k = 0) : ∀ J n, E (fun m => cv f g m J) x (J + b + n) = E f x J * E g x b
  | 0, n => by
    have e : E (fun m => cv f g m 0) x (0 + b + n) = 0 := E_zero fun k _ => rfl
    rw [e]
    show (0 : Rat) = 0 * E g x b
    grind
  | J + 1, n => by
    show E (fun m => cv f g m J + (if J ≤ m then f J * g (m - J) else 0)) x (J + 1 + b + n) = (E f x J + (f J : Rat) * x ^ J) * E g x b
    rw [E_add, show J + 1 + b + n = J + b + (n + 1) by omega, E_cv hg J, show J + b + (n + 1) = J + (b + (n + 1)) by omega, E_shift, E_supp hg]
    grind
/-! values and powers -/
theorem E_tp {f : Nat → Int} {x : Rat} {N : Nat} (h : ∀ k, N ≤ k → f k = 0) : E (tp f) x (N + 1) = (1 + x) * E f x N := by
  have e1 : E (tp f) x (N + 1) = E (fun m => (if 1 ≤ m then (1 : Int) * f (m - 1) else 0) + f m) x (N + 1) := E_congr fun k _ => by
    unfold tp
    by_cases q : k = 0
    · rw [if_pos q, if_neg (by omega)]
    · rw [if_neg q, if_pos (by omega), Int.one_mul]
  rw [e1, E_add, Nat.add_comm N 1, E_shift, Nat.add_comm 1 N, E_supp h]
  have : ((1 : Int) : Rat) = 1 := rfl
  rw [this]
  grind
theorem tpn_supp {f : Nat → Int} {N : Nat} (h : ∀ k, N ≤ k → f k = 0) : ∀ n k, N + n ≤ k → tpn f n k = 0
  | 0, k, hk => h k (by omega)
  | n + 1, k, hk => by
    show tp (tpn f n) k = 0
    unfold tp
    rw [tpn_supp h n k (by omega), if_neg (by omega), tpn_supp h n (k - 1) (by omega)]
    rfl
theorem E_tpn {f : Nat → Int} {x : Rat} {N : Nat} (h : ∀ k, N ≤ k → f k = 0) : ∀ n, E (tpn f n) x (N + n) = (1 + x) ^ n * E f x N
  | 0 => by
    show E f x N = (1 + x) ^ 0 * E f x N
    rw [Rat.pow_zero]
    grind
  | n + 1 => by
    show E (tp (tpn f n)) x (N + n + 1) = _
    rw [E_tp (tpn_supp h n), E_tpn h n, Rat.pow_succ]
    grind
theorem pow_pos' {x : Rat} (h : 0 < x) : ∀ n : Nat, 0 < x ^ n
  | 0 => by rw [Rat.pow_zero]; decide
  | n + 1 => by rw [Rat.pow_succ]; exact Rat.mul_pos (pow_pos' h n) h
theorem E_nonneg {f : Nat → Int} {x : Rat} (hx : 0 < x) (h : ∀ k, 0 ≤ f k) : ∀ N, 0 ≤ E f x N
  | 0 => Rat.le_refl
  | N + 1 => by
    show 0 ≤ E f x N + (f N : Rat) * x ^ N
    have h1 := E_nonneg hx h N
    have h2 : 0 ≤ (f N : Rat) * x ^ N := Rat.mul_nonneg (by exact_mod_cast h N) (Rat.le_of_lt (pow_pos' hx N))
    grind
theorem E_all {f : Nat → Int} {x : Rat} (hx : 0 < x) (h : ∀ k, 0 ≤ f k) : ∀ N, E f x N = 0 → ∀ k, k < N → f k = 0
  | 0, _, k, hk => absurd hk (Nat.not_lt_zero k)
  | N + 1, e, k, hk => by
    have e : E f x N + (f N : Rat) * x ^ N = 0 := e
    have h1 := E_nonneg hx h N
    have p := pow_pos' hx N
    have h2 : 0 ≤ (f N : Rat) * x ^ N := Rat.mul_nonneg (by exact_mod_cast h N) (Rat.le_of_lt p)
    have h3 : E f x N = 0 := by grind
    have h4 : (f N : Rat) * x ^ N = 0 := by grind
    by_cases q : k = N
    · rw [q]
      rcases Rat.mul_eq_zero.mp h4 with z | z
      · exact_mod_cast z
      · rw [z] at p
        exact absurd p (by decide)
    · exact E_all hx h N h3 k (by omega)
theorem bad_neg {f : Nat → Int} {x : Rat} {N : Nat} (hx : 0 < x) (hf : ∀ k, N ≤ k → f k = 0) (h : E f x N < 0) : Bad f := fun n q => by
  have h1 := E_nonneg hx q (N + n)
  rw [E_tpn hf] at h1
  have p := pow_pos' (x := 1 + x) (by grind) n
  have : 0 < (1 + x) ^ n * (- E f x N) := Rat.mul_pos p (by grind)
  grind
theorem tp_inj {f : Nat → Int} (h : ∀ k, tp f k = 0) : ∀ k, f k = 0
  | 0 => by
    have := h 0
    unfold tp at this
    simpa using this
  | k + 1 => by
    have := h (k + 1)
    unfold tp at this
    rw [if_neg (by omega), Nat.add_sub_cancel, tp_inj h k] at this
    omega
theorem tpn_inj {f : Nat → Int} : ∀ n, (∀ k, tpn f n k = 0) → ∀ k, f k = 0
  | 0, h => h
  | n + 1, h => tpn_inj n (tp_inj h)
theorem bad_zero {f : Nat → Int} {x : Rat} {N : Nat} (hx : 0 < x) (hf : ∀ k, N ≤ k → f k = 0) (h : E f x N = 0) (h0 : ∃ k, f k ≠ 0) : Bad f := fun n q => by
  have h1 : E (tpn f n) x (N + n) = 0 := by
    rw [E_tpn hf, h]
    grind
  have h2 := E_all hx q (N + n) h1
  obtain ⟨k, hk⟩ := h0
  refine hk (tpn_inj n (fun j => ?_) k)
  by_cases c : j < N + n
  · exact h2 j c
  · exact tpn_supp hf n j (by omega)
/-! shifted, scaled -/
def sh (f : Nat → Int) : Nat → Int := fun k => if k = 0 then 0 else f (k - 1)
theorem tpn_sh {f : Nat → Int} : ∀ n k, tpn (sh f) n k = sh (tpn f n) k
  | 0, k => rfl
  | n + 1, k => by
    show tp (tpn (sh f) n) k = sh (tp (tpn f n)) k
    rw [tp_congr (tpn_sh n) k]
    unfold tp sh
    by_cases h : k = 0
    · simp [h]
    · by_cases h1 : k = 1
      · simp [h1]
      · simp [h]
theorem bad_sh {f : Nat → Int} (b : Bad f) : Bad (sh f) := fun n q => b n fun k => by
  have := q (k + 1)
  rw [tpn_sh] at this
  unfold sh at this
  simpa using this
theorem bad_scale {f g : Nat → Int} {c : Int} (hc : 0 < c) (h : ∀ k, g k = c * f k) (b : Bad f) : Bad g := fun n q => b n ((nn_scale hc h n).mp q)
theorem bad_congr {f g : Nat → Int} (h : ∀ k, g k = f k) (b : Bad f) : Bad g := by
  have : g = f := funext h
  rw [this]
  exact b
/-! the narrow polynomial m x^2 - (2 m - 4) x + m -/
def pb : Nat → Nat → Int := tpn fun k => if k = 0 then 1 else 0
theorem pb_succ {N k : Nat} : pb (N + 1) k = (if k = 0 then 0 else pb N (k - 1)) + pb N k := rfl
theorem pb_up : ∀ N k : Nat, ((k : Int) + 1) * pb (N + 1) (k + 1) = ((N : Int) + 1) * pb N k
  | 0, k => by
    rw [pb_succ]
    show ((k : Int) + 1) * ((if k + 1 = 0 then 0 else (if k = 0 then 1 else 0)) + (if k + 1 = 0 then 1 else 0)) = (0 + 1) * (if k = 0 then 1 else 0)
    by_cases h : k = 0
    · subst h
      decide
    · simp [h]
  | N + 1, k => by
    rw [pb_succ (N := N + 1), if_neg (by omega), Nat.add_sub_cancel]
    have i1 := pb_up N k
    have i2 : (k : Int) * pb (N + 1) k = ((N : Int) + 1) * (if k = 0 then 0 else pb N (k - 1)) := by
      cases k with
      | zero => simp
      | succ j =>
        rw [if_neg (by omega), Nat.add_sub_cancel]
        have := pb_up N j
        push_cast
        exact this
    have e := pb_succ (N := N) (k := k)
    push_cast
    generalize (if k = 0 then 0 else pb N (k - 1)) = z at *
    grind
theorem pb_left {N k : Nat} : (k : Int) * pb (N + 1) k = ((N : Int) + 1) * (if k = 0 then 0 else pb N (k - 1)) := by
  cases k with
  | zero => simp
  | succ j =>
    rw [if_neg (by omega), Nat.add_sub_cancel]
    have := pb_up N j
    push_cast
    exact this
theorem pb_right {N k : Nat} : ((N : Int) + 1 - k) * pb (N + 1) k = ((N : Int) + 1) * pb N k := by
  have h1 := pb_left (N := N) (k := k)
  have e := pb_succ (N := N) (k := k)
  generalize (if k = 0 then 0 else pb N (k - 1)) = z at *
  grind
theorem pb_nonneg : ∀ N k, 0 ≤ pb N k
  | 0, k => by
    show 0 ≤ (if k = 0 then (1 : Int) else 0)
    split <;> decide
  | N + 1, k => by
    rw [pb_succ]
    have h1 := pb_nonneg N k
    have h2 := pb_nonneg N (k - 1)
    split <;> omega
theorem pb_pos : ∀ N k, k ≤ N → 0 < pb N k
  | 0, k, h => by
    have : k = 0 := by omega
    subst this
    decide
  | N + 1, k, h => by
    rw [pb_succ]
    by_cases c : k ≤ N
    · have h1 := pb_pos N k c
      have h2 := pb_nonneg N (k - 1)
      split <;> omega
    · have e : k = N + 1 := by omega
      subst e
      rw [if_neg (by omega), Nat.add_sub_cancel]
      have h1 := pb_pos N N (Nat.le_refl _)
      have h2 := pb_nonneg N (N + 1)
      omega
theorem pb_out : ∀ N k, N < k → pb N k = 0
  | 0, k, h => if_neg (by omega)
  | N + 1, k, h => by
    rw [pb_succ, if_neg (by omega), pb_out N k (by omega), pb_out N (k - 1) (by omega)]
    rfl
def ee (m N k : Int) : Int := m * N * (N - 1) - 4 * (m - 1) * k * (N - k)
theorem deep_cf {f : Nat → Int} {m : Int} (f0 : f 0 = m) (f1 : f 1 = 4 - 2 * m) (f2 : f 2 = m) (f3 : ∀ k, 3 ≤ k → f k = 0) : ∀ n k : Nat, ((n : Int) + 2) * (n + 1) * tpn f n k = pb (n + 2) k * ee m (n + 2) k
  | 0, k => by
    show ((0 : Int) + 2) * (0 + 1) * f k = _
    by_cases h0 : k = 0
    · subst h0
      rw [f0, show pb (0 + 2) 0 = 1 by decide]
      unfold ee
      simp
      omega
    · by_cases h1 : k = 1
      · subst h1
        rw [f1, show pb (0 + 2) 1 = 2 by decide]
        unfold ee
        simp
        grind
      · by_cases h2 : k = 2
        · subst h2
          rw [f2, show pb (0 + 2) 2 = 1 by decide]
          unfold ee
          simp
          omega
        · rw [f3 k (by omega), pb_out _ _ (by omega)]
          simp
  | n + 1, k => by
    have i1 := deep_cf f0 f1 f2 f3 n k
    have e : tpn f (n + 1) k = (if k = 0 then 0 else tpn f n (k - 1)) + tpn f n k := rfl
    have i2 : ((n : Int) + 2) * (n + 1) * (if k = 0 then 0 else tpn f n (k - 1)) = (if k = 0 then 0 else pb (n + 2) (k - 1)) * ee m (n + 2) (k - 1) := by
      by_cases h : k = 0
      · simp [h]
      · rw [if_neg h, if_neg h]
        have := deep_cf f0 f1 f2 f3 n (k - 1)
        rw [this]
        have : ((k - 1 : Nat) : Int) = (k : Int) - 1 := by omega
        rw [this]
    have l := pb_left (N := n + 2) (k := k)
    have r := pb_right (N := n + 2) (k := k)
    rw [e]
    push_cast at *
    generalize (if k = 0 then 0 else tpn f n (k - 1)) = u at *
    generalize (if k = 0 then 0 else pb (n + 2) (k - 1)) = v at *
    generalize tpn f n k = w at *
    generalize pb (n + 2) k = b at *
    show ((n : Int) + 1 + 2) * ((n : Int) + 1 + 1) * (u + w) = pb (n + 2 + 1) k * ee m ((n : Int) + 1 + 2) k
    generalize pb (n + 2 + 1) k = c at *
    have q : ((n : Int) + 1) * (((n : Int) + 1 + 2) * ((n : Int) + 1 + 1) * (u + w)) = ((n : Int) + 1) * (c * ee m ((n : Int) + 1 + 2) k) := by
      have a1 : ((n : Int) + 1) * (((n : Int) + 1 + 2) * ((n : Int) + 1 + 1) * (u + w)) = ((n : Int) + 3) * (v * ee m (n + 2) (k - 1)) + ((n : Int) + 3) * (b * ee m (n + 2) k) := by
        rw [← i1, ← i2]
        grind
      have a2 : ((n : Int) + 3) * (v * ee m (n + 2) (k - 1)) = (k * c) * ee m (n + 2) (k - 1) := by
        rw [l]
        grind
      have a3 : ((n : Int) + 3) * (b * ee m (n + 2) k) = (((n : Int) + 3 - k) * c) * ee m (n + 2) k := by
        have : ((n : Int) + 3 - k) * c = ((n : Int) + 3) * b := by
          grind
        rw [this]
        grind
      rw [a1, a2, a3]
      unfold ee
      grind
    exact Int.eq_of_mul_eq_mul_left (by omega) q
theorem deep_nn {f : Nat → Int} {m : Int} (f0 : f 0 = m) (f1 : f 1 = 4 - 2 * m) (f2 : f 2 = m) (f3 : ∀ k, 3 ≤ k → f k = 0) (n : Nat) : NN f n ↔ ∀ k : Nat, k ≤ n + 2 → 0 ≤ ee m (n + 2) k := by
  have pos : 0 < ((n : Int) + 2) * (n + 1) := Int.mul_pos (by omega) (by omega)
  constructor
  · intro q k hk
    have h := deep_cf f0 f1 f2 f3 n k
    have h1 := Int.mul_nonneg (Int.le_of_lt pos) (q k)
    rw [h] at h1
    exact Int.nonneg_of_mul_nonneg_right h1 (pb_pos _ _ hk)
  · intro q k
    have h := deep_cf f0 f1 f2 f3 n k
    by_cases hk : k ≤ n + 2
    · have h1 := Int.mul_nonneg (Int.le_of_lt (pb_pos _ _ hk)) (q k hk)
      rw [← h] at h1
      exact Int.nonneg_of_mul_nonneg_right h1 pos
    · rw [pb_out _ _ (by omega), Int.zero_mul] at h
      rcases Int.mul_eq_zero.mp h with z | z
      · omega
      · rw [z]
        exact Int.le_refl _
theorem sq_nonneg (a : Int) : 0 ≤ a * a := by
  by_cases h : 0 ≤ a
  · exact Int.mul_nonneg h h
  · have := Int.mul_nonneg (show 0 ≤ -a by omega) (show 0 ≤ -a by omega)
    rwa [Int.neg_mul_neg] at this
theorem deep_yes {m N k : Int} (h3 : 3 ≤ m) (hN : m ≤ N) : 0 ≤ ee m N k := by
  have h1 : 0 ≤ N * (N - m) := Int.mul_nonneg (by omega) (by omega)
  have h2 := Int.mul_nonneg (show 0 ≤ m - 1 by omega) (sq_nonneg (N - 2 * k))
  have e : ee m N k = N * (N - m) + (m - 1) * ((N - 2 * k) * (N - 2 * k)) := by
    unfold ee
    grind
  omega
theorem deep_yes1 {m N k : Int} (h3 : 3 ≤ m) (hN : m ≤ N + 1) (odd : N % 2 = 1) : 0 ≤ ee m N k := by
  have h1 : 0 ≤ (N - 1) * (N - m + 1) := Int.mul_nonneg (by omega) (by omega)
  have h0 : 0 ≤ (N - 2 * k) * (N - 2 * k) - 1 := by
    have : (N - 2 * k) * (N - 2 * k) ≠ 0 := fun z => by
      rcases Int.mul_eq_zero.mp z with z | z <;> omega
    have := sq_nonneg (N - 2 * k)
    omega
  have h2 := Int.mul_nonneg (show 0 ≤ m - 1 by omega) h0
  have e : ee m N k = (N - 1) * (N - m + 1) + (m - 1) * ((N - 2 * k) * (N - 2 * k) - 1) := by
    unfold ee
    grind
  omega
theorem deep_no {m h : Int} (h0 : 1 ≤ h) (hN : 2 * h < m) : ee m (2 * h) h < 0 := by
  have h1 : 0 < (2 * h) * (m - 2 * h) := Int.mul_pos (by omega) (by omega)
  have e : ee m (2 * h) h = -((2 * h) * (m - 2 * h)) := by
    unfold ee
    grind
  omega
theorem deep_no1 {m h : Int} (h0 : 1 ≤ h) (hN : 2 * h + 1 < m - 1) : ee m (2 * h + 1) h < 0 := by
  have h1 : 0 < (2 * h) * (m - 2 * h - 2) := Int.mul_pos (by omega) (by omega)
  have e : ee m (2 * h + 1) h = -((2 * h) * (m - 2 * h - 2)) := by
    unfold ee
    grind
  omega
/-- the least power of the narrow polynomial -/
theorem deep_least {f : Nat → Int} {m : Int} (h3 : 3 ≤ m) (f0 : f 0 = m) (f1 : f 1 = 4 - 2 * m) (f2 : f 2 = m) (f3 : ∀ k, 3 ≤ k → f k = 0) (n : Nat) : NN f n ↔ (if m % 2 = 0 then m - 3 else m - 2) ≤ (n : Int) := by
  rw [deep_nn f0 f1 f2 f3]
  constructor
  · intro q
    by_cases c : (if m % 2 = 0 then m - 3 else m - 2) ≤ (n : Int)
    · exact c
    · exfalso
      by_cases par : ((n : Int) + 2) % 2 = 0
      · have e : (n : Int) + 2 = 2 * (((n + 2) / 2 : Nat) : Int) := by omega
        have := q ((n + 2) / 2) (by omega)
        rw [e] at this
        have lt : 2 * (((n + 2) / 2 : Nat) : Int) < m := by split at c <;> omega
        have := deep_no (m := m) (h := (((n + 2) / 2 : Nat) : Int)) (by omega) lt
        omega
      · have e : (n : Int) + 2 = 2 * (((n + 1) / 2 : Nat) : Int) + 1 := by omega
        have := q ((n + 1) / 2) (by omega)
        rw [e] at this
        have lt : 2 * (((n + 1) / 2 : Nat) : Int) + 1 < m - 1 := by split at c <;> omega
        have := deep_no1 (m := m) (h := (((n + 1) / 2 : Nat) : Int)) (by omega) lt
        omega
  · intro c k hk
    by_cases big : m ≤ (n : Int) + 2
    · exact deep_yes h3 big
    · refine deep_yes1 h3 ?_ ?_ <;> (split at c <;> omega)
end S31

set_option maxHeartbeats 4000000
/-! plain mathematics of k30: corner numbers of a polynomial, halved -/
namespace S30
abbrev Sq := Nat → Rat
def sft (c : Sq) : Sq := fun k => c (k + 1)
/-- sum of pb i k * c k: the i-th row of the sums of neighbours -/
def T : Nat → Sq → Rat
  | 0, c => c 0
  | i + 1, c => T i c + T i (sft c)
/-- the mean -/
def U : Nat → Sq → Rat
  | 0, c => c 0
  | i + 1, c => (U i c + U i (sft c)) / 2
/-- sum of pb d k * c k * u^k * v^(d-k) -/
def G (u v : Rat) : Nat → Sq → Rat
  | 0, c => c 0
  | d + 1, c => v * G u v d c + u * G u v d (sft c)
theorem T_congr {i : Nat} : ∀ {c e : Sq}, (∀ k, k ≤ i → c k = e k) → T i c = T i e := by
  induction i with
  | zero => intro c e h; exact h 0 (Nat.le_refl _)
  | succ i ih =>
    intro c e h
    show T i c + T i (sft c) = T i e + T i (sft e)
    rw [ih fun k hk => h k (by omega), ih (c := sft c) (e := sft e) fun k hk => h (k + 1) (by omega)]
theorem G_congr {u v : Rat} {d : Nat} : ∀ {c e : Sq}, (∀ k, k ≤ d → c k = e k) → G u v d c = G u v d e := by
  induction d with
  | zero => intro c e h; exact h 0 (Nat.le_refl _)
  | succ d ih =>
    intro c e h
    show v * G u v d c + u * G u v d (sft c) = v * G u v d e + u * G u v d (sft e)
    rw [ih fun k hk => h k (by omega), ih (c := sft c) (e := sft e) fun k hk => h (k + 1) (by omega)]
theorem U_congr {i : Nat} : ∀ {c e : Sq}, (∀ k, k ≤ i → c k = e k) → U i c = U i e := by
  induction i with
  | zero => intro c e h; exact h 0 (Nat.le_refl _)
  | succ i ih =>
    intro c e h
    show (U i c + U i (sft c)) / 2 = (U i e + U i (sft e)) / 2
    rw [ih fun k hk => h k (by omega), ih (c := sft c) (e := sft e) fun k hk => h (k + 1) (by omega)]
theorem T_add {i : Nat} : ∀ {c e : Sq}, T i (fun k => c k + e k) = T i c + T i e := by
  induction i with
  | zero => intro c e; rfl
  | succ i ih =>
    intro c e
    show T i (fun k => c k + e k) + T i (fun k => sft c k + sft e k) = (T i c + T i (sft c)) + (T i e + T i (sft e))
    rw [ih, ih]
    grind
theorem U_add {i : Nat} : ∀ {c e : Sq}, U i (fun k => c k + e k) = U i c + U i e := by
  induction i with
  | zero => intro c e; rfl
  | succ i ih =>
    intro c e
    show (U i (fun k => c k + e k) + U i (fun k => sft c k + sft e k)) / 2 = (U i c + U i (sft c)) / 2 + (U i e + U i (sft e)) / 2
    rw [ih, ih]
    grind
theorem G_add {u v : Rat} {d : Nat} : ∀ {c e : Sq}, G u v d (fun k => c k + e k) = G u v d c + G u v d e := by
  induction d with
  | zero => intro c e; rfl
  | succ d ih =>
    intro c e
    show v * G u v d (fun k => c k + e k) + u * G u v d (fun k => sft c k + sft e k) = (v * G u v d c + u * G u v d (sft c)) + (v * G u v d e + u * G u v d (sft e))
    rw [ih, ih]
    grind
theorem T_mul {i : Nat} {t : Rat} : ∀ {c : Sq}, T i (fun k => t * c k) = t * T i c := by
  induction i with
  | zero => intro c; rfl
  | succ i ih =>
    intro c
    show T i (fun k => t * c k) + T i (fun k => t * sft c k) = t * (T i c + T i (sft c))
    rw [ih, ih]
    grind
theorem G_mul {u v : Rat} {d : Nat} {t : Rat} : ∀ {c : Sq}, G u v d (fun k => t * c k) = t * G u v d c := by
  induction d with
  | zero => intro c; rfl
  | succ d ih =>
    intro c
    show v * G u v d (fun k => t * c k) + u * G u v d (fun k => t * sft c k) = t * (v * G u v d c + u * G u v d (sft c))
    rw [ih, ih]
    grind
/-- the corner numbers -/
def be (c : Sq) : Sq := fun i => T i c
theorem be_sft (c : Sq) : sft (be c) = fun i => be c i + be (sft c) i := rfl
/-- in the corner numbers' own form -/
theorem G_be {y : Rat} {d : Nat} : ∀ c : Sq, G y (1 + y) d c = G y 1 d (be c) := by
  induction d with
  | zero => intro c; rfl
  | succ d ih =>
    intro c
    show (1 + y) * G y (1 + y) d c + y * G y (1 + y) d (sft c) = 1 * G y 1 d (be c) + y * G y 1 d (sft (be c))
    rw [ih, ih, be_sft, G_add]
    grind
/-- the lower half -/
theorem T_half {i : Nat} : ∀ c : Sq, T i (fun k => c k / 2 ^ k) = U i (be c) := by
  induction i with
  | zero =>
    intro c
    show c 0 / 2 ^ 0 = c 0
    rw [Rat.pow_zero]
    grind
  | succ i ih =>
    intro c
    have e : sft (fun k => c k / 2 ^ k) = fun k => (1 / 2) * (sft c k / 2 ^ k) := by
      funext k
      show c (k + 1) / 2 ^ (k + 1) = 1 / 2 * (c (k + 1) / 2 ^ k)
      rw [Rat.pow_succ]
      have : (2 : Rat) ^ k ≠ 0 := by
        have : (0 : Rat) < 2 ^ k := by
          induction k with
          | zero => rw [Rat.pow_zero]; decide
          | succ k ih2 => rw [Rat.pow_succ]; exact Rat.mul_pos ih2 (by decide)
        grind
      grind
    show T i _ + T i (sft _) = (U i (be c) + U i (sft (be c))) / 2
    rw [e, T_mul, ih, ih, be_sft, U_add]
    grind
/-! ### values -/
/-- the value at x of the first N numbers -/
def E (f : Sq) (x : Rat) : Nat → Rat
  | 0 => 0
  | N + 1 => E f x N + f N * x ^ N
theorem E_front {f : Sq} {x : Rat} : ∀ N, E f x (N + 1) = f 0 + x * E (sft f) x N
  | 0 => by
    show (0 : Rat) + f 0 * x ^ 0 = f 0 + x * 0
    rw [Rat.pow_zero]
    grind
  | N + 1 => by
    show E f x (N + 1) + f (N + 1) * x ^ (N + 1) = f 0 + x * (E (sft f) x N + f (N + 1) * x ^ N)
    rw [E_front N, Rat.pow_succ]
    grind
def ab (q : Rat) : Rat := if 0 ≤ q then q else -q
theorem ab_nonneg (q : Rat) : 0 ≤ ab q := by
  unfold ab
  split <;> grind
theorem ab_le (q : Rat) : -ab q ≤ q ∧ q ≤ ab q := by
  unfold ab
  split <;> grind
def Sm (f : Sq) : Nat → Rat
  | 0 => 0
  | N + 1 => Sm f N + ab (f N)
theorem Sm_nonneg {f : Sq} : ∀ N, 0 ≤ Sm f N
  | 0 => Rat.le_refl
  | N + 1 => by
    show 0 ≤ Sm f N + ab (f N)
    have := Sm_nonneg (f := f) N
    have := ab_nonneg (f N)
    grind
theorem pow_le {x : Rat} (h0 : 0 < x) (h1 : x ≤ 1) : ∀ n : Nat, 0 < x ^ n ∧ x ^ n ≤ 1
  | 0 => by rw [Rat.pow_zero]; decide
  | n + 1 => by
    obtain ⟨p, q⟩ := pow_le h0 h1 n
    rw [Rat.pow_succ]
    have m1 := Rat.mul_pos p h0
    have m2 : 0 ≤ x ^ n * (1 - x) := Rat.mul_nonneg (Rat.le_of_lt p) (by grind)
    grind
theorem E_bound {f : Sq} {x : Rat} (h0 : 0 < x) (h1 : x ≤ 1) : ∀ N, -Sm f N ≤ E f x N ∧ E f x N ≤ Sm f N
  | 0 => by
    show -(0 : Rat) ≤ 0 ∧ (0 : Rat) ≤ 0
    decide
  | N + 1 => by
    show -(Sm f N + ab (f N)) ≤ E f x N + f N * x ^ N ∧ E f x N + f N * x ^ N ≤ Sm f N + ab (f N)
    obtain ⟨i1, i2⟩ := E_bound h0 h1 N (f := f)
    obtain ⟨p, q⟩ := pow_le h0 h1 N
    obtain ⟨a1, a2⟩ := ab_le (f N)
    have a0 := ab_nonneg (f N)
    have m1 : 0 ≤ (ab (f N) - f N) * x ^ N := Rat.mul_nonneg (by grind) (Rat.le_of_lt p)
    have m2 : 0 ≤ (ab (f N) + f N) * x ^ N := Rat.mul_nonneg (by grind) (Rat.le_of_lt p)
    have m3 : 0 ≤ ab (f N) * (1 - x ^ N) := Rat.mul_nonneg a0 (by grind)
    grind
theorem first_zero {f : Sq} {N : Nat} (h : ∀ x : Rat, 0 < x → E f x (N + 1) = 0) : f 0 = 0 := by
  by_cases c : f 0 = 0
  · exact c
  · exfalso
    have s0 := Sm_nonneg (f := sft f) N
    have a0 : 0 < ab (f 0) := by
      unfold ab
      split <;> grind
    generalize hS : Sm (sft f) N = S at *
    generalize hA : ab (f 0) = A at *
    have d0 : 0 < S + 1 + A := by grind
    have x0 : 0 < A / (S + 1 + A) := by
      rw [Rat.div_def]
      exact Rat.mul_pos a0 (Rat.inv_pos.mpr d0)
    generalize hx : A / (S + 1 + A) = x at *
    have e : x * (S + 1 + A) = A := by
      rw [← hx]
      grind
    have x1 : x ≤ 1 := by
      by_cases q : x ≤ 1
      · exact q
      · have : 0 < (x - 1) * (S + 1 + A) := Rat.mul_pos (by grind) d0
        grind
    have h1 := h x x0
    rw [E_front] at h1
    obtain ⟨b1, b2⟩ := E_bound (f := sft f) x0 x1 N
    rw [hS] at b1 b2
    have m1 : 0 ≤ x * (S - E (sft f) x N) := Rat.mul_nonneg (Rat.le_of_lt x0) (by grind)
    have m2 : 0 ≤ x * (S + E (sft f) x N) := Rat.mul_nonneg (Rat.le_of_lt x0) (by grind)
    have m3 : 0 < x * (1 + A) := Rat.mul_pos x0 (by grind)
    have hA' : f 0 = A ∨ f 0 = -A := by
      rw [← hA]
      unfold ab
      split <;> grind
    rcases hA' with z | z <;> grind
/-- the numbers are told by the values -/
theorem E_uniq : ∀ {N : Nat} {f : Sq}, (∀ x : Rat, 0 < x → E f x N = 0) → ∀ k, k < N → f k = 0
  | 0, _, _, k, hk => absurd hk (Nat.not_lt_zero k)
  | N + 1, f, h, k, hk => by
    have f0 := first_zero h
    cases k with
    | zero => exact f0
    | succ k =>
      refine E_uniq (f := sft f) (N := N) (fun x hx => ?_) k (by omega)
      have := h x hx
      rw [E_front, f0] at this
      have : x * E (sft f) x N = 0 := by grind
      rcases Rat.mul_eq_zero.mp this with z | z
      · grind
      · exact z
end S30

set_option maxHeartbeats 4000000
/-! corner numbers: by sums over Pascal's rows; turned round; halves -/
namespace S30
open S31 (pb pb_succ pb_out pb_pos)
theorem E_add' {f g : Sq} {x : Rat} : ∀ N, E (fun k => f k + g k) x N = E f x N + E g x N
  | 0 => by
    show (0 : Rat) = 0 + 0
    grind
  | N + 1 => by
    show E (fun k => f k + g k) x N + (f N + g N) * x ^ N = (E f x N + f N * x ^ N) + (E g x N + g N * x ^ N)
    rw [E_add' N]
    grind
theorem E_congr' {f g : Sq} {x : Rat} : ∀ {N}, (∀ k, k < N → f k = g k) → E f x N = E g x N
  | 0, _ => rfl
  | N + 1, h => by
    show E f x N + f N * x ^ N = E g x N + g N * x ^ N
    rw [E_congr' fun k hk => h k (by omega), h N (by omega)]
/-- with Pascal's row in front -/
def pw (d : Nat) (c : Sq) : Sq := fun k => (pb d k : Rat) * c k
theorem E_pw {u : Rat} : ∀ (d : Nat) (c : Sq), E (pw d c) u (d + 1) = G u 1 d c
  | 0, c => by
    show (0 : Rat) + (pb 0 0 : Rat) * c 0 * u ^ 0 = c 0
    rw [Rat.pow_zero, show (pb 0 0 : Rat) = 1 from rfl]
    grind
  | d + 1, c => by
    have e1 : E (pw (d + 1) c) u (d + 1 + 1) = E (fun k => ((if k = 0 then 0 else pb d (k - 1) : Int) : Rat) * c k + pw d c k) u (d + 1 + 1) := E_congr' fun k _ => by
      show ((pb (d + 1) k : Int) : Rat) * c k = _ + (pb d k : Rat) * c k
      rw [pb_succ, Rat.intCast_add]
      grind
    have e2 : E (pw d c) u (d + 1 + 1) = E (pw d c) u (d + 1) := by
      show E (pw d c) u (d + 1) + (pb d (d + 1) : Rat) * c (d + 1) * u ^ (d + 1) = _
      rw [pb_out d (d + 1) (by omega), show ((0 : Int) : Rat) = 0 from rfl]
      grind
    have e3 : E (fun k => ((if k = 0 then 0 else pb d (k - 1) : Int) : Rat) * c k) u (d + 1 + 1) = u * E (pw d (sft c)) u (d + 1) := by
      rw [E_front]
      have : (sft fun k => ((if k = 0 then 0 else pb d (k - 1) : Int) : Rat) * c k) = pw d (sft c) := by
        funext k
        show ((if k + 1 = 0 then 0 else pb d (k + 1 - 1) : Int) : Rat) * c (k + 1) = (pb d k : Rat) * c (k + 1)
        rw [if_neg (by omega), Nat.add_sub_cancel]
      rw [this]
      show ((0 : Int) : Rat) * c 0 + _ = _
      rw [show ((0 : Int) : Rat) = 0 from rfl]
      grind
    rw [e1, E_add', e2, e3, E_pw d c, E_pw d (sft c)]
    show _ = 1 * G u 1 d c + u * G u 1 d (sft c)
    grind
theorem T_eq {i : Nat} : ∀ c : Sq, T i c = G 1 1 i c := by
  induction i with
  | zero => intro c; rfl
  | succ i ih =>
    intro c
    show T i c + T i (sft c) = 1 * G 1 1 i c + 1 * G 1 1 i (sft c)
    rw [ih, ih]
    grind
/-- the i-th corner number as a sum -/
theorem T_sum (i : Nat) (c : Sq) : T i c = E (pw i c) 1 (i + 1) := by rw [T_eq, E_pw]
theorem pw_uniq {d : Nat} {c e : Sq} (h : ∀ y : Rat, 0 < y → G y 1 d c = G y 1 d e) : ∀ k, k ≤ d → c k = e k := fun k hk => by
  have z := E_uniq (N := d + 1) (f := pw d fun k => c k + -1 * e k) (fun y hy => by
    rw [E_pw, G_add, G_mul, h y hy]
    grind) k (by omega)
  have p := pb_pos d k hk
  have q : ((pb d k : Int) : Rat) ≠ 0 := fun w => by
    have : pb d k = 0 := by exact_mod_cast w
    omega
  rcases Rat.mul_eq_zero.mp z with w | w
  · exact absurd w q
  · grind
theorem G_hom {t u v : Rat} {d : Nat} : ∀ c : Sq, G (t * u) (t * v) d c = t ^ d * G u v d c := by
  induction d with
  | zero =>
    intro c
    show c 0 = t ^ 0 * c 0
    rw [Rat.pow_zero]
    grind
  | succ d ih =>
    intro c
    show t * v * G (t * u) (t * v) d c + t * u * G (t * u) (t * v) d (sft c) = t ^ (d + 1) * (v * G u v d c + u * G u v d (sft c))
    rw [ih, ih, Rat.pow_succ]
    grind
def rv (d : Nat) (c : Sq) : Sq := fun k => c (d - k)
theorem G_rv {y : Rat} {d : Nat} : ∀ c : Sq, G 1 y d c = G y 1 d (rv d c) := by
  induction d with
  | zero => intro c; rfl
  | succ d ih =>
    intro c
    show y * G 1 y d c + 1 * G 1 y d (sft c) = 1 * G y 1 d (rv (d + 1) c) + y * G y 1 d (sft (rv (d + 1) c))
    rw [ih, ih]
    have e1 : G y 1 d (rv (d + 1) c) = G y 1 d (rv d (sft c)) := G_congr fun k hk => by
      show c (d + 1 - k) = c (d - k + 1)
      congr 1
      omega
    have e2 : sft (rv (d + 1) c) = rv d c := by
      funext k
      show c (d + 1 - (k + 1)) = c (d - k)
      congr 1
      omega
    rw [e1, e2]
    grind
/-- from the other end -/
theorem be_rv {d : Nat} {c e : Sq} (h : ∀ x : Rat, G x 1 d e = G (1 - x) 1 d c) : ∀ i, i ≤ d → be e i = be c (d - i) := by
  refine pw_uniq (d := d) (c := be e) (e := rv d (be c)) fun y hy => ?_
  have y1 : (1 : Rat) + y ≠ 0 := by grind
  have y0 : y ≠ 0 := by grind
  rw [← G_be]
  have a1 : G y (1 + y) d e = (1 + y) ^ d * G (y / (1 + y)) 1 d e := by
    rw [← G_hom]
    congr 1 <;> grind
  have a2 : (1 : Rat) - y / (1 + y) = 1 / (1 + y) := by grind
  have a3 : G 1 (1 + y) d c = (1 + y) ^ d * G (1 / (1 + y)) 1 d c := by
    rw [← G_hom]
    congr 1 <;> grind
  have a4 : G 1 (1 + y) d c = y ^ d * G (1 / y) (1 + 1 / y) d c := by
    rw [← G_hom]
    congr 1 <;> grind
  have a5 : G 1 y d (be c) = y ^ d * G (1 / y) 1 d (be c) := by
    rw [← G_hom]
    congr 1 <;> grind
  rw [a1, h, a2, ← a3, a4, G_be, ← a5, G_rv]
/-- the numbers a with values A: divided by Pascal's row -/
def dv (d : Nat) (a : Sq) : Sq := fun k => a k / (pb d k : Rat)
theorem G_dv {d : Nat} {a : Sq} {x : Rat} : G x 1 d (dv d a) = E a x (d + 1) := by
  rw [← E_pw]
  refine E_congr' fun k hk => ?_
  have p := pb_pos d k (by omega)
  have q : ((pb d k : Int) : Rat) ≠ 0 := fun w => by
    have : pb d k = 0 := by exact_mod_cast w
    omega
  show (pb d k : Rat) * (a k / (pb d k : Rat)) = a k
  grind
/-- the corner numbers of the polynomial with the numbers a -/
def cn (d : Nat) (a : Sq) : Sq := be (dv d a)
theorem E_half {a : Sq} {x : Rat} : ∀ N, E (fun k => a k / 2 ^ k) x N = E a (x / 2) N
  | 0 => rfl
  | N + 1 => by
    show E _ x N + a N / 2 ^ N * x ^ N = E a (x / 2) N + a N * (x / 2) ^ N
    rw [E_half N]
    have p2 : ∀ n : Nat, (x / 2) ^ n * 2 ^ n = x ^ n := fun n => by
      induction n with
      | zero => rw [Rat.pow_zero, Rat.pow_zero, Rat.pow_zero]; grind
      | succ n ih => rw [Rat.pow_succ, Rat.pow_succ, Rat.pow_succ, ← ih]; grind
    have h2 : (2 : Rat) ^ N ≠ 0 := by
      have := S31.pow_pos' (x := 2) (by decide) N
      grind
    have := p2 N
    grind
/-- lower half: values at x / 2 -/
theorem cn_low {d : Nat} {a e : Sq} (h : ∀ x : Rat, 0 < x → E e x (d + 1) = E a (x / 2) (d + 1)) : ∀ i, i ≤ d → cn d e i = U i (cn d a) := fun i hi => by
  have he : ∀ k, k < d + 1 → e k = a k / 2 ^ k := fun k hk => by
    have := E_uniq (N := d + 1) (f := fun k => e k + -1 * (a k / 2 ^ k)) (fun x hx => by
      have m : E (fun k => e k + -1 * (a k / 2 ^ k)) x (d + 1) = E e x (d + 1) + -1 * E (fun k => a k / 2 ^ k) x (d + 1) := by
        rw [E_add']
        congr 1
        have : ∀ N, E (fun k => -1 * (a k / 2 ^ k)) x N = -1 * E (fun k => a k / 2 ^ k) x N := fun N => by
          induction N with
          | zero => show (0 : Rat) = -1 * 0; grind
          | succ N ih =>
            show E _ x N + -1 * (a N / 2 ^ N) * x ^ N = -1 * (E _ x N + a N / 2 ^ N * x ^ N)
            rw [ih]
            grind
        exact this _
      rw [m, h x hx, E_half]
      grind) k hk
    grind
  show T i (dv d e) = U i (be (dv d a))
  rw [← T_half]
  refine T_congr fun k hk => ?_
  show e k / (pb d k : Rat) = a k / (pb d k : Rat) / 2 ^ k
  rw [he k (by omega)]
  grind
/-- upper half: values at (1 + x) / 2 -/
theorem cn_high {d : Nat} {a e r s : Sq} (h : ∀ x : Rat, E e x (d + 1) = E a ((1 + x) / 2) (d + 1)) (hr : ∀ x : Rat, E r x (d + 1) = E a (1 - x) (d + 1)) (hs : ∀ x : Rat, E s x (d + 1) = E e (1 - x) (d + 1)) :
    ∀ i, i ≤ d → cn d e (d - i) = U i (rv d (cn d a)) := fun i hi => by
  have q1 : ∀ j, j ≤ d → cn d s j = cn d e (d - j) := be_rv (c := dv d e) (e := dv d s) fun x => by rw [G_dv, G_dv, hs]
  have q2 : ∀ j, j ≤ d → cn d r j = cn d a (d - j) := be_rv (c := dv d a) (e := dv d r) fun x => by rw [G_dv, G_dv, hr]
  have q3 := cn_low (d := d) (a := r) (e := s) (fun x _ => by
    rw [hs, h, hr]
    congr 1
    grind) i hi
  rw [← q1 i hi, q3]
  exact U_congr fun k hk => q2 k (by omega)
end S30

set_option maxHeartbeats 4000000
/-! composed with a straight line; Horner's moves; bends -/
namespace S30
open S31 (pb pb_succ pb_out pb_pos cf)
theorem E_smul {c : Rat} {f : Sq} {x : Rat} : ∀ N, E (fun k => c * f k) x N = c * E f x N
  | 0 => by show (0 : Rat) = c * 0; grind
  | N + 1 => by
    show E _ x N + c * f N * x ^ N = c * (E f x N + f N * x ^ N)
    rw [E_smul N]
    grind
theorem E_zero {f : Sq} {x : Rat} : ∀ {N}, (∀ k, k < N → f k = 0) → E f x N = 0
  | 0, _ => rfl
  | N + 1, h => by
    show E f x N + f N * x ^ N = 0
    rw [E_zero fun k hk => h k (by omega), h N (by omega)]
    grind
def alg (u v : Rat) : Nat → Sq → Sq
  | 0, _ => fun _ => 0
  | n + 1, a => fun k => ((if k = 0 then a 0 else 0) + u * alg u v n (sft a) k) + v * (if k = 0 then 0 else alg u v n (sft a) (k - 1))
theorem alg_out {u v : Rat} : ∀ n (a : Sq) k, n ≤ k → alg u v n a k = 0
  | 0, _, _, _ => rfl
  | n + 1, a, k, h => by
    show ((if k = 0 then a 0 else 0) + u * alg u v n (sft a) k) + v * (if k = 0 then 0 else alg u v n (sft a) (k - 1)) = 0
    rw [if_neg (by omega), if_neg (by omega), alg_out n _ k (by omega), alg_out n _ (k - 1) (by omega)]
    grind
theorem E_alg {u v x : Rat} : ∀ n (a : Sq), E (alg u v n a) x n = E a (u + v * x) n
  | 0, _ => rfl
  | n + 1, a => by
    have e0 : E (fun k => if k = 0 then a 0 else 0) x (n + 1) = a 0 := by
      rw [E_front, E_zero (f := sft fun k => if k = 0 then a 0 else 0) (fun k _ => by show (if k + 1 = 0 then a 0 else 0) = 0; rw [if_neg (by omega)])]
      show a 0 + x * 0 = a 0
      grind
    have e1 : E (alg u v n (sft a)) x (n + 1) = E (sft a) (u + v * x) n := by
      show E _ x n + alg u v n (sft a) n * x ^ n = _
      rw [alg_out n _ n (Nat.le_refl _), E_alg n (sft a)]
      grind
    have e2 : E (fun k => if k = 0 then 0 else alg u v n (sft a) (k - 1)) x (n + 1) = x * E (sft a) (u + v * x) n := by
      rw [E_front]
      have : (sft fun k => if k = 0 then 0 else alg u v n (sft a) (k - 1)) = alg u v n (sft a) := by
        funext k
        show (if k + 1 = 0 then 0 else alg u v n (sft a) (k + 1 - 1)) = _
        rw [if_neg (by omega), Nat.add_sub_cancel]
      rw [this, E_alg n (sft a)]
      show 0 + _ = _
      grind
    have s : E (alg u v (n + 1) a) x (n + 1) = (E (fun k => if k = 0 then a 0 else 0) x (n + 1) + u * E (alg u v n (sft a)) x (n + 1)) + v * E (fun k => if k = 0 then 0 else alg u v n (sft a) (k - 1)) x (n + 1) := by
      rw [← E_smul, ← E_smul, ← E_add', ← E_add']
      rfl
    rw [s, e0, e1, e2, E_front]
    grind
theorem E_same {a b : Sq} {N : Nat} (h : ∀ x : Rat, 0 < x → E a x N = E b x N) : ∀ k, k < N → a k = b k := fun k hk => by
  have := E_uniq (N := N) (f := fun k => a k + -1 * b k) (fun x hx => by
    rw [E_add' (f := a) (g := fun k => -1 * b k), E_smul, h x hx]
    grind) k hk
  grind
theorem cn_congr {d : Nat} {a b : Sq} (h : ∀ k, k ≤ d → a k = b k) {i : Nat} (hi : i ≤ d) : cn d a i = cn d b i := T_congr fun k hk => by
  show a k / _ = b k / _
  rw [h k (by omega)]
theorem cn_uniq {d : Nat} {a b : Sq} (h : ∀ x : Rat, E a x (d + 1) = E b x (d + 1)) {i : Nat} (hi : i ≤ d) : cn d a i = cn d b i :=
  cn_congr (fun k hk => E_same (fun x _ => h x) k (by omega)) hi
theorem E_at0 {a : Sq} (n : Nat) : E a 0 (n + 1) = a 0 := by rw [E_front]; grind
theorem cn_0 {d : Nat} {a : Sq} : cn d a 0 = a 0 := by
  show a 0 / (pb d 0 : Rat) = a 0
  have : pb d 0 = 1 := by
    induction d with
    | zero => rfl
    | succ d ih => rw [pb_succ, if_pos rfl, ih]; rfl
  rw [this]
  show a 0 / ((1 : Int) : Rat) = a 0
  rw [show ((1 : Int) : Rat) = 1 from rfl]
  grind
theorem cn_d {d : Nat} {a : Sq} : cn d a d = E a 1 (d + 1) := by
  show T d (dv d a) = _
  rw [T_eq, G_dv]
/-- the lower half of the corner numbers -/
theorem cn_lo {d : Nat} {a e : Sq} (h : ∀ x : Rat, E e x (d + 1) = E a (x / 2) (d + 1)) {i : Nat} (hi : i ≤ d) : cn d e i = U i (cn d a) := cn_low (fun x _ => h x) i hi
theorem cn_hi {d : Nat} {a e : Sq} (h : ∀ x : Rat, E e x (d + 1) = E a ((1 + x) / 2) (d + 1)) {i : Nat} (hi : i ≤ d) : cn d e (d - i) = U i (rv d (cn d a)) :=
  cn_high (r := alg 1 (-1) (d + 1) a) (s := alg 1 (-1) (d + 1) e) h (fun x => by rw [E_alg]; congr 1; grind) (fun x => by rw [E_alg]; congr 1; grind) i hi
/-! ### sums of neighbours -/
theorem U_T {i : Nat} : ∀ c : Sq, U i c = T i c / 2 ^ i := by
  induction i with
  | zero =>
    intro c
    show c 0 = c 0 / 2 ^ 0
    rw [Rat.pow_zero]
    grind
  | succ i ih =>
    intro c
    show (U i c + U i (sft c)) / 2 = (T i c + T i (sft c)) / 2 ^ (i + 1)
    rw [ih, ih, Rat.pow_succ]
    have : (2 : Rat) ^ i ≠ 0 := by
      have := S31.pow_pos' (x := 2) (by decide) i
      grind
    grind
theorem T_rev {i : Nat} : ∀ c : Sq, T i (fun k => c (i - k)) = T i c := by
  induction i with
  | zero => intro c; rfl
  | succ i ih =>
    intro c
    show T i (fun k => c (i + 1 - k)) + T i (sft fun k => c (i + 1 - k)) = T i c + T i (sft c)
    have e1 : T i (fun k => c (i + 1 - k)) = T i (sft c) := by
      rw [← ih (sft c)]
      exact T_congr fun k hk => by
        show c (i + 1 - k) = c (i - k + 1)
        congr 1
        omega
    have e2 : T i (sft fun k => c (i + 1 - k)) = T i c := by
      rw [← ih c]
      exact T_congr fun k hk => by
        show c (i + 1 - (k + 1)) = c (i - k)
        congr 1
        omega
    rw [e1, e2]
    grind
/-- the last ones, from the other end -/
theorem U_rv {d i : Nat} (hi : i ≤ d) (c : Sq) : U i (rv d c) = T i (fun k => c (d - i + k)) / 2 ^ i := by
  rw [U_T]
  congr 1
  rw [← T_rev (i := i) fun k => c (d - i + k)]
  exact T_congr fun k hk => by
    show c (d - k) = c (d - i + (i - k))
    congr 1
    omega
/-! ### bends -/
def D2 (c : Sq) : Sq := fun k => (c k + -2 * c (k + 1)) + c (k + 2)
theorem U_mul {i : Nat} {t : Rat} : ∀ {c : Sq}, U i (fun k => t * c k) = t * U i c := by
  induction i with
  | zero => intro c; rfl
  | succ i ih =>
    intro c
    show (U i (fun k => t * c k) + U i (fun k => t * sft c k)) / 2 = t * ((U i c + U i (sft c)) / 2)
    rw [ih, ih]
    grind
theorem U_D2 {k : Nat} (c : Sq) : (U k c + -2 * U (k + 1) c) + U (k + 2) c = U k (D2 c) / 4 := by
  have e : U k (D2 c) = (U k c + -2 * U k (sft c)) + U k (sft (sft c)) := by
    rw [← U_mul, ← U_add, ← U_add]
    rfl
  rw [e]
  show (U k c + -2 * ((U k c + U k (sft c)) / 2)) + ((U k c + U k (sft c)) / 2 + (U k (sft c) + U k (sft (sft c))) / 2) / 2 = _
  grind
theorem U_bd {M : Rat} {k : Nat} : ∀ {g : Sq}, (∀ j, j ≤ k → ab (g j) ≤ M) → ab (U k g) ≤ M := by
  induction k with
  | zero => intro g h; exact h 0 (Nat.le_refl _)
  | succ k ih =>
    intro g h
    have h1 := ih (g := g) fun j hj => h j (by omega)
    have h2 := ih (g := sft g) fun j hj => h (j + 1) (by omega)
    show ab ((U k g + U k (sft g)) / 2) ≤ M
    unfold ab at *
    grind
structure Bend (n : Nat) (v : Sq) (M : Rat) : Prop where
  nn : 0 ≤ M
  le : ∀ k, k + 2 < n → ab (D2 v k) ≤ M
  at_ : M = 0 ∨ ∃ k, k + 2 < n ∧ M = ab (D2 v k)
theorem ab_div {q : Rat} : ab (q / 4) = ab q / 4 := by
  unfold ab
  grind
theorem bend_lo {n : Nat} {c h : Sq} {M M' : Rat} (B : Bend n c M) (B' : Bend n h M') (e : ∀ k, k < n → h k = U k c) : 4 * M' ≤ M := by
  rcases B'.at_ with z | ⟨k, hk, z⟩
  · have := B.nn
    grind
  · have e2 : D2 h k = U k (D2 c) / 4 := by
      rw [← U_D2]
      show (h k + -2 * h (k + 1)) + h (k + 2) = _
      rw [e k (by omega), e (k + 1) (by omega), e (k + 2) hk]
    have := U_bd (M := M) (k := k) (g := D2 c) fun j hj => B.le j (by omega)
    rw [z, e2, ab_div]
    grind
theorem bend_hi {n : Nat} {c h : Sq} {M M' : Rat} (B : Bend n c M) (B' : Bend n h M') (e : ∀ k, k < n → h (n - 1 - k) = U k (rv (n - 1) c)) : 4 * M' ≤ M := by
  rcases B'.at_ with z | ⟨k, hk, z⟩
  · have := B.nn
    grind
  · have e2 : D2 h k = U (n - 3 - k) (D2 (rv (n - 1) c)) / 4 := by
      rw [← U_D2]
      show (h k + -2 * h (k + 1)) + h (k + 2) = _
      have p1 := e (n - 1 - k) (by omega)
      have p2 := e (n - 2 - k) (by omega)
      have p3 := e (n - 3 - k) (by omega)
      rw [show n - 1 - (n - 1 - k) = k by omega, show n - 1 - k = n - 3 - k + 2 by omega] at p1
      rw [show n - 1 - (n - 2 - k) = k + 1 by omega, show n - 2 - k = n - 3 - k + 1 by omega] at p2
      rw [show n - 1 - (n - 3 - k) = k + 2 by omega] at p3
      rw [p1, p2, p3]
      grind
    have := U_bd (M := M) (k := n - 3 - k) (g := D2 (rv (n - 1) c)) fun j hj => by
      have q := B.le (n - 3 - j) (by omega)
      have : D2 (rv (n - 1) c) j = D2 c (n - 3 - j) := by
        show (c (n - 1 - j) + -2 * c (n - 1 - (j + 1))) + c (n - 1 - (j + 2)) = (c (n - 3 - j) + -2 * c (n - 3 - j + 1)) + c (n - 3 - j + 2)
        rw [show n - 1 - j = n - 3 - j + 2 by omega, show n - 1 - (j + 1) = n - 3 - j + 1 by omega, show n - 1 - (j + 2) = n - 3 - j by omega]
        grind
      rw [this]
      exact q
    rw [z, e2, ab_div]
    grind
/-! ### Horner's moves -/
theorem div_step {t y : Rat} : ∀ {N : Nat} {f g : Sq}, g N = f N → (∀ j, j < N → g j = f j + t * g (j + 1)) → E f y (N + 1) = g 0 + (y - t) * E (sft g) y N
  | 0, f, g, h, _ => by
    show (0 : Rat) + f 0 * y ^ 0 = g 0 + (y - t) * 0
    rw [Rat.pow_zero, h]
    grind
  | N + 1, f, g, h, hs => by
    have i := div_step (t := t) (y := y) (N := N) (f := sft f) (g := sft g) h (fun j hj => hs (j + 1) (by omega))
    rw [E_front, i, E_front (f := sft g)]
    have := hs 0 (by omega)
    show f 0 + y * (g 1 + (y - t) * E (sft (sft g)) y N) = g 0 + (y - t) * (g 1 + y * E (sft (sft g)) y N)
    rw [this]
    show _ = f 0 + t * g 1 + _
    grind
/-- the first l numbers at z, the rest at y -/
def Mix (m : Sq) (z y : Rat) (l N : Nat) : Rat := E m z l + z ^ l * E (fun k => m (l + k)) y (N - l)
theorem mix_step {m m' : Sq} {t z : Rat} {l d : Nat} (hl : l < d) (h0 : ∀ k, k < l → m' k = m k) (hd : m' d = m d) (hs : ∀ k, l ≤ k → k < d → m' k = m k + t * m' (k + 1)) :
    Mix m' z (t + z) (l + 1) (d + 1) = Mix m z (t + z) l (d + 1) := by
  have q := div_step (t := t) (y := t + z) (N := d - l) (f := fun k => m (l + k)) (g := fun k => m' (l + k)) (by
    show m' (l + (d - l)) = m (l + (d - l))
    rw [show l + (d - l) = d by omega, hd]) (fun j hj => hs (l + j) (by omega) (by omega))
  unfold Mix
  rw [show d + 1 - l = d - l + 1 by omega, q, show d + 1 - (l + 1) = d - l by omega]
  have e : (sft fun k => m' (l + k)) = fun k => m' (l + 1 + k) := by
    funext k
    show m' (l + (k + 1)) = m' (l + 1 + k)
    congr 1
    omega
  rw [e]
  show (E m' z l + m' l * z ^ l) + z ^ (l + 1) * _ = E m z l + z ^ l * (m' l + (t + z - t) * _)
  rw [E_congr' (f := m') (g := m) h0, Rat.pow_succ]
  grind
theorem mix_0 {m : Sq} {z y : Rat} {N : Nat} : Mix m z y 0 N = E m y N := by
  unfold Mix
  show (0 : Rat) + z ^ 0 * E (fun k => m (0 + k)) y N = _
  rw [Rat.pow_zero, E_congr' (f := fun k => m (0 + k)) (g := m) fun k _ => by
    show m (0 + k) = m k
    rw [Nat.zero_add]]
  grind
theorem mix_d {m : Sq} {z y : Rat} {d : Nat} : Mix m z y d (d + 1) = E m z (d + 1) := by
  unfold Mix
  rw [show d + 1 - d = 1 by omega]
  show E m z d + z ^ d * ((0 : Rat) + m (d + 0) * y ^ 0) = E m z d + m d * z ^ d
  rw [Rat.pow_zero, Nat.add_zero]
  grind
theorem mul_pow' {a b : Rat} : ∀ n : Nat, (a * b) ^ n = a ^ n * b ^ n
  | 0 => by rw [Rat.pow_zero, Rat.pow_zero, Rat.pow_zero]; grind
  | n + 1 => by rw [Rat.pow_succ, Rat.pow_succ, Rat.pow_succ, mul_pow' n]; grind
theorem E_scale {f : Sq} {B x : Rat} : ∀ N, E (fun k => f k * B ^ k) x N = E f (B * x) N
  | 0 => rfl
  | N + 1 => by
    show E _ x N + f N * B ^ N * x ^ N = E f (B * x) N + f N * (B * x) ^ N
    rw [E_scale N, mul_pow']
    grind
theorem E_rev {f : Sq} {B y : Rat} {d : Nat} : ∀ {N}, N ≤ d + 1 → E (fun k => f k * B ^ (d - k)) (B * y) N = B ^ d * E f y N
  | 0, _ => by show (0 : Rat) = B ^ d * 0; grind
  | N + 1, h => by
    show E _ (B * y) N + f N * B ^ (d - N) * (B * y) ^ N = B ^ d * (E f y N + f N * y ^ N)
    rw [E_rev (N := N) (by omega), mul_pow']
    have : B ^ d = B ^ (d - N) * B ^ N := by
      rw [← S31.pow_add']
      congr 1
      omega
    rw [this]
    grind
end S30

set_option maxHeartbeats 4000000
/-! numbers over a bottom; lowest terms -/
namespace S30
open S31 (cf cf_in cf_out cf_map gl gl_pos)
/-- the numbers over o -/
def cr (ns : List Int) (o : Int) : Sq := fun k => (cf ns k : Rat) / (o : Rat)
/-- a common factor and zeros at the end left out -/
structure LowT (ns : List Int) (o : Int) (ls : List Int) (o' : Int) : Prop where
  len : ls.length ≤ ns.length
  ex : ∃ c : Int, 0 < c ∧ (∀ k, cf ns k = c * cf ls k) ∧ o = c * o'
  top : ∀ n, ls.length = n + 1 → cf ls n ≠ 0
theorem LowT.pos {ns ls : List Int} {o o' : Int} (h : LowT ns o ls o') (ho : 0 < o) : 0 < o' := by
  obtain ⟨c, c0, _, e⟩ := h.ex
  rw [e] at ho
  by_cases q : 0 < o'
  · exact q
  · have : c * o' ≤ 0 := Int.mul_nonpos_of_nonneg_of_nonpos (by omega) (by omega)
    omega
theorem ne_cast {i : Int} (h : i ≠ 0) : (i : Rat) ≠ 0 := fun q => h (by exact_mod_cast q)
theorem LowT.cr {ns ls : List Int} {o o' : Int} (h : LowT ns o ls o') (ho : 0 < o) : cr ls o' = cr ns o := by
  have o1 := h.pos ho
  obtain ⟨c, c0, e1, e2⟩ := h.ex
  funext k
  show (cf ls k : Rat) / (o' : Rat) = (cf ns k : Rat) / (o : Rat)
  rw [e1, e2, Rat.intCast_mul, Rat.intCast_mul]
  have a := ne_cast (show c ≠ 0 by omega)
  have b := ne_cast (show o' ≠ 0 by omega)
  grind
/-- nothing is left out but the factor -/
theorem LowT.full {ns ls : List Int} {o o' : Int} (h : LowT ns o ls o') {n : Nat} (hn : ns.length = n + 1) (ht : cf ns n ≠ 0) : ls.length = n + 1 := by
  have l := h.len
  obtain ⟨c, c0, e1, e2⟩ := h.ex
  by_cases q : ls.length = n + 1
  · exact q
  · exact absurd (by rw [e1, cf_out (by omega), Int.mul_zero]) ht
theorem LowT.nil {ns ls : List Int} {o o' : Int} (h : LowT ns o ls o') (hn : ns.length = 0) : ls = [] := List.eq_nil_of_length_eq_zero (by have := h.len; omega)
theorem LowT.abs {ns ls : List Int} {o o' : Int} (h : LowT ns o ls o') (k : Nat) : (cf ls k).natAbs ≤ (cf ns k).natAbs := by
  obtain ⟨c, c0, e1, e2⟩ := h.ex
  rw [e1, Int.natAbs_mul]
  exact Nat.le_mul_of_pos_left _ (by omega)
theorem LowT.over {ns ls : List Int} {o o' : Int} (h : LowT ns o ls o') : o'.natAbs ≤ o.natAbs := by
  obtain ⟨c, c0, e1, e2⟩ := h.ex
  rw [e2, Int.natAbs_mul]
  exact Nat.le_mul_of_pos_left _ (by omega)
theorem lowt_nil {ns : List Int} {o : Int} (ho : 0 < o) (hz : ∀ k, cf ns k = 0) : LowT ns o [] 1 :=
  ⟨Nat.zero_le _, ⟨o, ho, fun k => by rw [hz, S31.cf_nil, Int.mul_zero], (Int.mul_one o).symm⟩, fun n h => by cases h⟩
theorem lowt_of {ns : List Int} {s : Nat} {o : Int} (ho : 0 < o) (hs : s + 1 ≤ ns.length) (hz : ∀ k, s + 1 ≤ k → cf ns k = 0) (ht : cf ns s ≠ 0) :
    LowT ns o ((ns.take (s + 1)).map fun n => n / gl o (ns.take (s + 1))) (o / gl o (ns.take (s + 1))) := by
  obtain ⟨g0, _, g1, gd⟩ := gl_pos ho (ns.take (s + 1))
  have e1 : ∀ k, cf ns k = gl o (ns.take (s + 1)) * cf ((ns.take (s + 1)).map fun n => n / gl o (ns.take (s + 1))) k := by
    intro k
    by_cases h : k < s + 1
    · have h1 : k < ns.length := by omega
      have h2 : k < (ns.take (s + 1)).length := by simp; omega
      rw [cf_map (g := fun n => n / gl o (ns.take (s + 1))) (Int.zero_ediv _), cf_in h1, cf_in h2, List.getElem_take]
      have : gl o (ns.take (s + 1)) ∣ ns[k] := gd _ (by
        have := List.getElem_mem h2
        rwa [List.getElem_take] at this)
      rw [Int.mul_comm, Int.ediv_mul_cancel this]
    · rw [hz k (by omega), cf_out (by simp; omega), Int.mul_zero]
  refine ⟨by simp; omega, ⟨_, g0, e1, by rw [Int.mul_comm, Int.ediv_mul_cancel g1]⟩, fun n hn q => ?_⟩
  have hl : ((ns.take (s + 1)).map fun n => n / gl o (ns.take (s + 1))).length = s + 1 := by simp; omega
  have : n = s := by omega
  subst this
  exact ht (by rw [e1, q, Int.mul_zero])
theorem gl_bits {o : Int} {ns : List Int} (ho : 0 < o) : (gl o ns).natAbs ≤ o.natAbs := by
  obtain ⟨g0, g1, _⟩ := gl_pos ho ns
  omega
end S30

set_option maxHeartbeats 4000000
/-! sums of neighbours in whole numbers; Pascal's rows up to 12 -/
namespace S30
open S31 (cf cf_in cf_out pb pb_succ pb_pos pb_out)
theorem comb_pb : ∀ d : Nat, d < 13 → ∀ k : Nat, k < d + 1 → PySem.W.mcComb d k = pb d k ∧ 0 < pb d k ∧ pb d k < 8192 := by decide +kernel
/-- the i-th row, the j-th sum -/
def W (c : Nat → Int) : Nat → Nat → Int
  | 0, j => c j
  | i + 1, j => W c i j + W c i (j + 1)
theorem W_T (c : Nat → Int) : ∀ i j, (W c i j : Rat) = T i (fun k => (c (j + k) : Rat))
  | 0, j => rfl
  | i + 1, j => by
    show ((W c i j + W c i (j + 1) : Int) : Rat) = T i (fun k => (c (j + k) : Rat)) + T i (sft fun k => (c (j + k) : Rat))
    rw [Rat.intCast_add, W_T c i j, W_T c i (j + 1)]
    have e : (sft fun k => (c (j + k) : Rat)) = fun k => (c (j + 1 + k) : Rat) := by
      funext k
      show (c (j + (k + 1)) : Rat) = _
      rw [show j + (k + 1) = j + 1 + k by omega]
    rw [e]
theorem W_0 (c : Nat → Int) (i : Nat) : (W c i 0 : Rat) = T i (fun k => (c k : Rat)) := by
  rw [W_T]
  exact T_congr fun k _ => by rw [Nat.zero_add]
/-- one more row -/
theorem W_row {c : Nat → Int} {n i : Nat} {ds : List Int} (hi : i < n) (hl : ds.length = n - i) (h : ∀ j, j < n - i → cf ds j = W c i j) :
    (List.zipWith (fun a b => a + b) ds (ds.drop 1)).length = n - (i + 1) ∧ ∀ j, j < n - (i + 1) → cf (List.zipWith (fun a b => a + b) ds (ds.drop 1)) j = W c (i + 1) j := by
  have l : (List.zipWith (fun a b => a + b) ds (ds.drop 1)).length = n - (i + 1) := by simp; omega
  refine ⟨l, fun j hj => ?_⟩
  rw [cf_in (by omega), List.getElem_zipWith, List.getElem_drop]
  show _ = W c i j + W c i (j + 1)
  rw [← h j (by omega), ← h (j + 1) (by omega), cf_in (by omega), cf_in (by omega)]
  congr 1
  congr 1
  omega
/-- the corner numbers from the tops -/
theorem cn_tops {d : Nat} {a : Sq} {D : Nat → Int} {c o : Int} {o' : Rat} (h : ∀ k, k ≤ d → (D k : Rat) * (pb d k : Rat) = (o' * a k) * (c : Rat)) {i : Nat} (hi : i ≤ d) : (W D i 0 : Rat) = cn d a i * ((c : Rat) * o') := by
  rw [W_0]
  show T i _ = T i (dv d a) * _
  rw [Rat.mul_comm, ← T_mul]
  refine T_congr fun k hk => ?_
  have p := pb_pos d k (by omega)
  have q := ne_cast (show pb d k ≠ 0 by omega)
  have := h k (by omega)
  show (D k : Rat) = (c : Rat) * o' * (a k / (pb d k : Rat))
  grind
end S30

set_option maxHeartbeats 4000000
/-! plain mathematics of the law's own functions -/
namespace S30
open S31 (cf cf_in cf_out pb pb_succ pb_pos pb_out)
/-- times a line -/
def tlR (u v : Rat) (f : Sq) : Sq := fun k => f k * u + (if k = 0 then 0 else f (k - 1) * v)
theorem E_tl {u v x : Rat} {f : Sq} {j : Nat} (h : f j = 0) : E (tlR u v f) x (j + 1) = (u + v * x) * E f x j := by
  have e1 : E (fun k => u * f k) x (j + 1) = u * E f x j := by
    show E (fun k => u * f k) x j + u * f j * x ^ j = _
    rw [E_smul, h]
    grind
  have e2 : E (fun k => if k = 0 then 0 else f (k - 1) * v) x (j + 1) = v * x * E f x j := by
    rw [E_front]
    have : (sft fun k => if k = 0 then 0 else f (k - 1) * v) = fun k => v * f k := by
      funext k
      show (if k + 1 = 0 then 0 else f (k + 1 - 1) * v) = v * f k
      rw [if_neg (by omega), Nat.add_sub_cancel, Rat.mul_comm]
    rw [this, E_smul]
    show 0 + _ = _
    grind
  have e3 : tlR u v f = fun k => u * f k + (if k = 0 then 0 else f (k - 1) * v) := by
    funext k
    show f k * u + _ = _
    rw [Rat.mul_comm]
  rw [e3, E_add' (f := fun k => u * f k) (g := fun k => if k = 0 then 0 else f (k - 1) * v), e1, e2]
  grind
theorem E_put0 {f : Sq} {c x : Rat} {j : Nat} : E (fun k => if k = 0 then f 0 + c else f k) x (j + 1) = E f x (j + 1) + c := by
  rw [E_front, E_front]
  have : (sft fun k => if k = 0 then f 0 + c else f k) = sft f := by
    funext k
    show (if k + 1 = 0 then f 0 + c else f (k + 1)) = f (k + 1)
    rw [if_neg (by omega)]
  rw [this]
  show (if 0 = 0 then f 0 + c else f 0) + _ = _
  rw [if_pos rfl]
  grind
theorem pb_le : ∀ N k : Nat, pb N k ≤ 2 ^ N
  | 0, k => by
    cases k with
    | zero => decide
    | succ k => rw [pb_out 0 (k + 1) (by omega)]; decide
  | N + 1, k => by
    rw [pb_succ, Int.pow_succ]
    have h1 := pb_le N k
    have h2 := pb_le N (k - 1)
    have h0 : (0 : Int) < 2 ^ N := Int.pow_pos (by decide)
    split <;> omega
/-- the next common multiple -/
theorem next_mul {o b : Int} (ho : 0 < o) (hb : 0 < b) : 0 < o * b / (Int.gcd o b : Nat) ∧ o ∣ o * b / (Int.gcd o b : Nat) ∧ b ∣ o * b / (Int.gcd o b : Nat) := by
  have g0 : 0 < Int.gcd o b := Int.gcd_pos_of_ne_zero_left b (by omega)
  obtain ⟨x, ex⟩ := Int.gcd_dvd_left (a := o) (b := b)
  obtain ⟨y, ey⟩ := Int.gcd_dvd_right (a := o) (b := b)
  have g1 : 0 < ((Int.gcd o b : Nat) : Int) := by omega
  generalize ((Int.gcd o b : Nat) : Int) = g at *
  have e : o * b / g = o * y := by
    rw [ey, show o * (g * y) = g * (o * y) by rw [← Int.mul_assoc, Int.mul_comm o g, Int.mul_assoc], Int.mul_ediv_cancel_left _ (by omega)]
  have y0 : 0 < y := by
    rw [ey] at hb
    by_cases q : 0 < y
    · exact q
    · have := Int.mul_nonpos_of_nonneg_of_nonpos (a := g) (b := y) (by omega) (by omega)
      omega
  rw [e]
  refine ⟨Int.mul_pos ho y0, ⟨y, rfl⟩, ⟨x, ?_⟩⟩
  rw [ex, ey]
  grind
theorem one_pow' : ∀ n : Nat, (1 : Rat) ^ n = 1
  | 0 => Rat.pow_zero _
  | n + 1 => by rw [Rat.pow_succ, one_pow' n, Rat.mul_one]
theorem E_1 {f : Sq} (j : Nat) : E f 1 (j + 1) = E f 1 j + f j := by
  show E f 1 j + f j * 1 ^ j = _
  rw [one_pow', Rat.mul_one]
theorem d2_int {a b c : Int} {x y z r : Rat} (h1 : (a : Rat) = x * r) (h2 : (b : Rat) = y * r) (h3 : (c : Rat) = z * r) : ((a - 2 * b + c : Int) : Rat) = ((x + -2 * y) + z) * r := by
  rw [Rat.intCast_add, Rat.intCast_sub, Rat.intCast_mul, h1, h2, h3, show ((2 : Int) : Rat) = 2 from rfl]
  grind
theorem ab_mul {q c : Rat} (hc : 0 < c) : ab (q * c) = ab q * c := by
  unfold ab
  by_cases h : 0 ≤ q
  · rw [if_pos h, if_pos (Rat.mul_nonneg h (Rat.le_of_lt hc))]
  · have := Rat.mul_pos (show 0 < -q by grind) hc
    rw [if_neg h, if_neg (by grind)]
    grind
theorem le_quot {q m c : Rat} (hc : 0 < c) (h : q * c ≤ m) : q ≤ m / c := by
  by_cases z : q ≤ m / c
  · exact z
  · have p := Rat.mul_pos (show 0 < q - m / c by grind) hc
    have e : (q - m / c) * c = q * c - m := by
      have : c ≠ 0 := by grind
      grind
    rw [e] at p
    grind
theorem quot_eq {q m c : Rat} (hc : 0 < c) (h : m = q * c) : m / c = q := by
  rw [h]
  grind
theorem ab_int {i : Int} : ab (i : Rat) = ((i.natAbs : Int) : Rat) := by
  unfold ab
  split
  · rename_i h
    have : 0 ≤ i := by exact_mod_cast h
    rw [show ((i.natAbs : Nat) : Int) = i by omega]
  · rename_i h
    have : ¬ 0 ≤ i := fun z => h (by exact_mod_cast z)
    rw [show ((i.natAbs : Nat) : Int) = -i by omega, Rat.intCast_neg]
end S30

set_option maxHeartbeats 4000000
namespace S30
theorem cn_same {n : Nat} {A B : Sq} {P : Rat → Rat} (e1 : ∀ x, E A x n = P x) (e2 : ∀ x, E B x n = P x) {k : Nat} (hk : k < n) : cn (n - 1) A k = cn (n - 1) B k := by
  cases n with
  | zero => exact absurd hk (Nat.not_lt_zero _)
  | succ d => exact cn_uniq (fun x => (e1 x).trans (e2 x).symm) (by omega)
theorem cn_first {n : Nat} {A : Sq} {P : Rat → Rat} {v w : Rat} (n1 : 1 ≤ n) (e : ∀ x, E A x n = P (v + (w - v) * x)) : cn (n - 1) A 0 = P v := by
  obtain ⟨d, rfl⟩ : ∃ d, n = d + 1 := ⟨n - 1, by omega⟩
  rw [show cn (d + 1 - 1) A 0 = A 0 from cn_0, show A 0 = E A 0 (d + 1) from (E_at0 d).symm, e]
  congr 1
  grind
theorem cn_last {n : Nat} {A : Sq} {P : Rat → Rat} {v w : Rat} (n1 : 1 ≤ n) (e : ∀ x, E A x n = P (v + (w - v) * x)) : cn (n - 1) A (n - 1) = P w := by
  obtain ⟨d, rfl⟩ : ∃ d, n = d + 1 := ⟨n - 1, by omega⟩
  rw [Nat.add_sub_cancel, cn_d, e]
  congr 1
  grind
theorem cn_lower {n : Nat} {A B : Sq} {P : Rat → Rat} {v w m : Rat} (e : ∀ x, E A x n = P (v + (w - v) * x)) (e1 : ∀ x, E B x n = P (v + (m - v) * x)) (hm : m = (v + w) / 2) {k : Nat} (hk : k < n) : U k (cn (n - 1) A) = cn (n - 1) B k := by
  obtain ⟨d, rfl⟩ : ∃ d, n = d + 1 := ⟨n - 1, by omega⟩
  refine (cn_lo (d := d) (a := A) (e := B) (fun x => ?_) (by omega)).symm
  rw [e1, e]
  congr 1
  rw [hm]
  grind
theorem cn_upper {n : Nat} {A B : Sq} {P : Rat → Rat} {v w m : Rat} (e : ∀ x, E A x n = P (v + (w - v) * x)) (e1 : ∀ x, E B x n = P (m + (w - m) * x)) (hm : m = (v + w) / 2) {k : Nat} (hk : k < n) : U (n - 1 - k) (rv (n - 1) (cn (n - 1) A)) = cn (n - 1) B k := by
  obtain ⟨d, rfl⟩ : ∃ d, n = d + 1 := ⟨n - 1, by omega⟩
  rw [Nat.add_sub_cancel]
  have := cn_hi (a := A) (e := B) (d := d) (fun x => by
    rw [e1, e]
    congr 1
    rw [hm]
    grind) (i := d - k) (by omega)
  rw [← this]
  congr 1
  omega
theorem lt_frac {a b c d : Int} (hb : 0 < b) (hd : 0 < d) (h : a * d < c * b) : (a : Rat) / b < (c : Rat) / d := by
  have p0 : (0 : Rat) < (b : Rat) := by exact_mod_cast hb
  have p1 : (0 : Rat) < (d : Rat) := by exact_mod_cast hd
  have h2 : (a : Rat) * (d : Rat) < (c : Rat) * (b : Rat) := by
    have : ((a * d : Int) : Rat) < ((c * b : Int) : Rat) := Rat.intCast_lt_intCast.mpr h
    rwa [Rat.intCast_mul, Rat.intCast_mul] at this
  have a1 : (b : Rat) ≠ 0 := by grind
  have a2 : (d : Rat) ≠ 0 := by grind
  refine Rat.not_le.mp fun q => ?_
  have q2 := Rat.mul_nonneg (Rat.mul_nonneg (show 0 ≤ (a : Rat) / b - (c : Rat) / d by grind) (Rat.le_of_lt p0)) (Rat.le_of_lt p1)
  have e : ((a : Rat) / b - (c : Rat) / d) * b * d = (a : Rat) * d - (c : Rat) * b := by grind
  rw [e] at q2
  grind
theorem half_frac {a b c d : Int} (hb : 0 < b) (hd : 0 < d) : ((a * d + c * b : Int) : Rat) = (((a : Rat) / b + (c : Rat) / d) / 2) * ((2 * b * d : Int) : Rat) := by
  have p0 : (0 : Rat) < (b : Rat) := by exact_mod_cast hb
  have p1 : (0 : Rat) < (d : Rat) := by exact_mod_cast hd
  rw [Rat.intCast_add, Rat.intCast_mul, Rat.intCast_mul, Rat.intCast_mul, Rat.intCast_mul, show ((2 : Int) : Rat) = 2 from rfl]
  have a1 : (b : Rat) ≠ 0 := by grind
  have a2 : (d : Rat) ≠ 0 := by grind
  grind
theorem half_lo {v w m : Rat} (h : v < w) (hm : m = (v + w) / 2) : v < m ∧ m < w := by
  subst hm
  constructor <;> grind
theorem ways {b : Int} (hb : 0 < b) {s : Rat} {t : Int} (h : (t : Rat) = s) (x : Rat) : ((t * b : Int) : Rat) / b * x = s * x := by
  have p0 : (0 : Rat) < (b : Rat) := by exact_mod_cast hb
  rw [Rat.intCast_mul, h]
  grind
end S30

set_option maxHeartbeats 0
namespace T
open PySem PySem.Spec PyProof.Rows L2 Z
/-! ### the text by places -/
def topS (i : Nat) : Stmt := PySem.Challenge.pw_belownought_k30_halved_corner_numbers.main.body.getD i (.Pass ⟨0, 0, 0, 0⟩)
abbrev s_OutOfBoundsD_initD : Stmt := inClass (topS 6) 0
theorem sc_OutOfBoundsD_initD : FnScope (["self", "value"] : List Str) (["self", "value"] : List Str) (defScope s_OutOfBoundsD_initD) := ⟨rfl, rfl, rfl, by decide +kernel, rfl, by decide +kernel, by decide +kernel⟩
abbrev s_check_number : Stmt := topS 9
theorem sc_check_number : FnScope (["value", "low", "high"] : List Str) (["value", "low", "high"] : List Str) (defScope s_check_number) := ⟨rfl, rfl, rfl, by decide +kernel, rfl, by decide +kernel, by decide +kernel⟩
abbrev s_BadSizeD_initD : Stmt := inClass (topS 7) 0
theorem sc_BadSizeD_initD : FnScope (["self", "size"] : List Str) (["self", "size"] : List Str) (defScope s_BadSizeD_initD) := ⟨rfl, rfl, rfl, by decide +kernel, rfl, by decide +kernel, by decide +kernel⟩
abbrev s_check_size : Stmt := topS 10
theorem sc_check_size : FnScope (["things", "low", "high", "size"] : List Str) (["things", "low", "high"] : List Str) (defScope s_check_size) := ⟨rfl, rfl, rfl, by decide +kernel, rfl, by decide +kernel, by decide +kernel⟩
abbrev s_lowest_terms : Stmt := topS 25
theorem sc_lowest_terms : FnScope (["numbers", "over", "size", "common", "number"] : List Str) (["numbers", "over"] : List Str) (defScope s_lowest_terms) := ⟨rfl, rfl, rfl, by decide +kernel, rfl, by decide +kernel, by decide +kernel⟩
abbrev s_PolyD_initD : Stmt := inClass (topS 24) 0
theorem sc_PolyD_initD : FnScope (["self", "numbers", "over"] : List Str) (["self", "numbers", "over"] : List Str) (defScope s_PolyD_initD) := ⟨rfl, rfl, rfl, by decide +kernel, rfl, by decide +kernel, by decide +kernel⟩
abbrev s_RatioD_initD : Stmt := inClass (topS 12) 0
theorem sc_RatioD_initD : FnScope (["self", "top", "bottom", "common"] : List Str) (["self", "top", "bottom"] : List Str) (defScope s_RatioD_initD) := ⟨rfl, rfl, rfl, by decide +kernel, rfl, by decide +kernel, by decide +kernel⟩
abbrev s_law_times_line : Stmt := topS 43
theorem sc_law_times_line : FnScope (["nums", "a", "b", "found", "k"] : List Str) (["nums", "a", "b"] : List Str) (defScope s_law_times_line) := ⟨rfl, rfl, rfl, by decide +kernel, rfl, by decide +kernel, by decide +kernel⟩
abbrev s_law_along : Stmt := topS 44
theorem sc_law_along : FnScope (["p", "a", "b", "bottom", "total", "scale", "one", "over", "k"] : List Str) (["p", "a", "b", "bottom"] : List Str) (defScope s_law_along) := ⟨rfl, rfl, rfl, by decide +kernel, rfl, by decide +kernel, by decide +kernel⟩
abbrev s_law_is : Stmt := topS 41
theorem sc_law_is : FnScope (["told", "top", "bottom"] : List Str) (["told", "top", "bottom"] : List Str) (defScope s_law_is) := ⟨rfl, rfl, rfl, by decide +kernel, rfl, by decide +kernel, by decide +kernel⟩
abbrev s_law_are : Stmt := topS 49
theorem sc_law_are : FnScope (["told", "numbers", "k"] : List Str) (["told", "numbers"] : List Str) (defScope s_law_are) := ⟨rfl, rfl, rfl, by decide +kernel, rfl, by decide +kernel, by decide +kernel⟩
abbrev s_law_rows : Stmt := topS 45
theorem sc_law_rows : FnScope (["d", "rows", "i"] : List Str) (["d"] : List Str) (defScope s_law_rows) := ⟨rfl, rfl, rfl, by decide +kernel, rfl, by decide +kernel, by decide +kernel⟩
abbrev s_law_corners : Stmt := topS 46
theorem sc_law_corners : FnScope (["p", "low", "high", "bottom", "top", "moved", "over", "d", "rows", "share", "k", "found", "i", "total", "part"] : List Str) (["p", "low", "high"] : List Str) (defScope s_law_corners) := ⟨rfl, rfl, rfl, by decide +kernel, rfl, by decide +kernel, by decide +kernel⟩
abbrev s_CrossedD_initD : Stmt := inClass (topS 8) 0
theorem sc_CrossedD_initD : FnScope (["self", "low", "high"] : List Str) (["self", "low", "high"] : List Str) (defScope s_CrossedD_initD) := ⟨rfl, rfl, rfl, by decide +kernel, rfl, by decide +kernel, by decide +kernel⟩
abbrev s_Ratio_compare : Stmt := inClass (topS 12) 10
theorem sc_Ratio_compare : FnScope (["self", "other", "left", "right"] : List Str) (["self", "other"] : List Str) (defScope s_Ratio_compare) := ⟨rfl, rfl, rfl, by decide +kernel, rfl, by decide +kernel, by decide +kernel⟩
abbrev s_Poly_made : Stmt := inClass (topS 24) 1
theorem sc_Poly_made : FnScope (["numbers", "over", "lowest", "poly"] : List Str) (["numbers", "over"] : List Str) (defScope s_Poly_made) := ⟨rfl, rfl, rfl, by decide +kernel, rfl, by decide +kernel, by decide +kernel⟩
abbrev s_power_row : Stmt := topS 27
theorem sc_power_row : FnScope (["number", "most", "row", "k"] : List Str) (["number", "most"] : List Str) (defScope s_power_row) := ⟨rfl, rfl, rfl, by decide +kernel, rfl, by decide +kernel, by decide +kernel⟩
abbrev s_Poly_shifted : Stmt := inClass (topS 24) 15
theorem sc_Poly_shifted : FnScope (["self", "ratio", "powers", "moved", "k", "number", "least"] : List Str) (["self", "ratio"] : List Str) (defScope s_Poly_shifted) := ⟨rfl, rfl, rfl, by decide +kernel, rfl, by decide +kernel, by decide +kernel⟩
abbrev s_Poly_stretched : Stmt := inClass (topS 24) 16
theorem sc_Poly_stretched : FnScope (["self", "ratio", "tops", "bottoms", "found", "k", "number"] : List Str) (["self", "ratio"] : List Str) (defScope s_Poly_stretched) := ⟨rfl, rfl, rfl, by decide +kernel, rfl, by decide +kernel, by decide +kernel⟩
abbrev s_RatioD_subD : Stmt := inClass (topS 12) 3
theorem sc_RatioD_subD : FnScope (["self", "other"] : List Str) (["self", "other"] : List Str) (defScope s_RatioD_subD) := ⟨rfl, rfl, rfl, by decide +kernel, rfl, by decide +kernel, by decide +kernel⟩
abbrev s_corner_tops : Stmt := topS 31
theorem sc_corner_tops : FnScope (["poly", "low", "high", "moved", "ways", "k", "common", "many", "differences", "number", "tops", "first", "second"] : List Str) (["poly", "low", "high"] : List Str) (defScope s_corner_tops) := ⟨rfl, rfl, rfl, by decide +kernel, rfl, by decide +kernel, by decide +kernel⟩
abbrev s_corner_numbers : Stmt := topS 30
theorem sc_corner_numbers : FnScope (["poly", "low", "high", "tops", "bottom", "top"] : List Str) (["poly", "low", "high"] : List Str) (defScope s_corner_numbers) := ⟨rfl, rfl, rfl, by decide +kernel, rfl, by decide +kernel, by decide +kernel⟩
abbrev s_law_fell : Stmt := topS 52
theorem sc_law_fell : FnScope (["poly", "low", "high", "e"] : List Str) (["poly", "low", "high"] : List Str) (defScope s_law_fell) := ⟨rfl, rfl, rfl, by decide +kernel, rfl, by decide +kernel, by decide +kernel⟩
abbrev s_law_crossed : Stmt := topS 54
theorem sc_law_crossed : FnScope (["poly", "low", "high", "told"] : List Str) (["poly", "low", "high"] : List Str) (defScope s_law_crossed) := ⟨rfl, rfl, rfl, by decide +kernel, rfl, by decide +kernel, by decide +kernel⟩
abbrev s_law_gcd : Stmt := topS 39
theorem sc_law_gcd : FnScope (["a", "b"] : List Str) (["a", "b"] : List Str) (defScope s_law_gcd) := ⟨rfl, rfl, rfl, by decide +kernel, rfl, by decide +kernel, by decide +kernel⟩
abbrev s_law_bend : Stmt := topS 48
theorem sc_law_bend : FnScope (["numbers", "over", "one", "tops", "most", "k"] : List Str) (["numbers"] : List Str) (defScope s_law_bend) := ⟨rfl, rfl, rfl, by decide +kernel, rfl, by decide +kernel, by decide +kernel⟩
abbrev s_law_halves : Stmt := topS 47
theorem sc_law_halves : FnScope (["numbers", "d", "rows", "over", "one", "tops", "lower", "upper", "i", "up", "down", "k"] : List Str) (["numbers"] : List Str) (defScope s_law_halves) := ⟨rfl, rfl, rfl, by decide +kernel, rfl, by decide +kernel, by decide +kernel⟩
abbrev s_law_ratios : Stmt := topS 50
theorem sc_law_ratios : FnScope (["numbers", "one"] : List Str) (["numbers"] : List Str) (defScope s_law_ratios) := ⟨rfl, rfl, rfl, by decide +kernel, rfl, by decide +kernel, by decide +kernel⟩
abbrev s_halved_tops : Stmt := topS 35
theorem sc_halved_tops : FnScope (["tops", "lower", "upper", "row", "shift", "first", "second"] : List Str) (["tops"] : List Str) (defScope s_halved_tops) := ⟨rfl, rfl, rfl, by decide +kernel, rfl, by decide +kernel, by decide +kernel⟩
abbrev s_halved : Stmt := topS 34
theorem sc_halved : FnScope (["numbers", "bottom", "number", "lower", "upper", "scale", "top"] : List Str) (["numbers"] : List Str) (defScope s_halved) := ⟨rfl, rfl, rfl, by decide +kernel, rfl, by decide +kernel, by decide +kernel⟩
abbrev s_law_halved : Stmt := topS 51
theorem sc_law_halved : FnScope (["numbers", "due", "k", "handed", "told", "old", "half", "new"] : List Str) (["numbers"] : List Str) (defScope s_law_halved) := ⟨rfl, rfl, rfl, by decide +kernel, rfl, by decide +kernel, by decide +kernel⟩
abbrev s_law_take : Stmt := topS 37
theorem sc_law_take : FnScope (["pool", "k", "many", "cell"] : List Str) (["pool", "k", "many"] : List Str) (defScope s_law_take) := ⟨rfl, rfl, rfl, by decide +kernel, rfl, by decide +kernel, by decide +kernel⟩
abbrev s_law_turn : Stmt := topS 38
theorem sc_law_turn : FnScope (["pool", "k", "many", "far"] : List Str) (["pool", "k", "many", "far"] : List Str) (defScope s_law_turn) := ⟨rfl, rfl, rfl, by decide +kernel, rfl, by decide +kernel, by decide +kernel⟩
abbrev s_law_list : Stmt := topS 56
theorem sc_law_list : FnScope (["pool", "size", "found", "k", "top"] : List Str) (["pool"] : List Str) (defScope s_law_list) := ⟨rfl, rfl, rfl, by decide +kernel, rfl, by decide +kernel, by decide +kernel⟩
abbrev s_law_whole : Stmt := topS 42
theorem sc_law_whole : FnScope (["x"] : List Str) (["x"] : List Str) (defScope s_law_whole) := ⟨rfl, rfl, rfl, by decide +kernel, rfl, by decide +kernel, by decide +kernel⟩
abbrev s_law_size : Stmt := topS 53
theorem sc_law_size : FnScope (["low", "many", "e"] : List Str) (["low", "many"] : List Str) (defScope s_law_size) := ⟨rfl, rfl, rfl, by decide +kernel, rfl, by decide +kernel, by decide +kernel⟩
abbrev s_law_value : Stmt := topS 57
theorem sc_law_value : FnScope (["p", "one", "moved", "over"] : List Str) (["p", "one"] : List Str) (defScope s_law_value) := ⟨rfl, rfl, rfl, by decide +kernel, rfl, by decide +kernel, by decide +kernel⟩
abbrev s_law_low : Stmt := topS 40
theorem sc_law_low : FnScope (["nums", "over", "size", "both", "one"] : List Str) (["nums", "over"] : List Str) (defScope s_law_low) := ⟨rfl, rfl, rfl, by decide +kernel, rfl, by decide +kernel, by decide +kernel⟩
abbrev s_law_world : Stmt := topS 55
theorem sc_law_world : FnScope (["pool", "size", "nums", "k", "low", "wide", "top", "p"] : List Str) (["pool"] : List Str) (defScope s_law_world) := ⟨rfl, rfl, rfl, by decide +kernel, rfl, by decide +kernel, by decide +kernel⟩
abbrev s_moved_to_end : Stmt := topS 33
theorem sc_moved_to_end : FnScope (["poly", "ratio", "upward", "moved"] : List Str) (["poly", "ratio", "upward"] : List Str) (defScope s_moved_to_end) := ⟨rfl, rfl, rfl, by decide +kernel, rfl, by decide +kernel, by decide +kernel⟩
abbrev s_end_numbers : Stmt := topS 32
theorem sc_end_numbers : FnScope (["poly", "ratio", "upward", "moved", "number"] : List Str) (["poly", "ratio", "upward"] : List Str) (defScope s_end_numbers) := ⟨rfl, rfl, rfl, by decide +kernel, rfl, by decide +kernel, by decide +kernel⟩
abbrev s_law : Stmt := topS 58
theorem sc_law : FnScope (["script", "pool", "p", "low", "high", "poly", "first", "last", "due", "told", "value", "halves", "middle", "half", "way", "moved", "over", "ends", "one"] : List Str) (["script"] : List Str) (defScope s_law) := ⟨rfl, rfl, rfl, by decide +kernel, rfl, by decide +kernel, by decide +kernel⟩
/-! ### facts -/
def df_OutOfBoundsD_initD : He5.DefA := ⟨fun K => He.fAd K ("OutOfBounds", some "__init__"), "__init__", "OutOfBounds.__init__", defArgs s_OutOfBoundsD_initD, defBody s_OutOfBoundsD_initD, defScope s_OutOfBoundsD_initD, [], []⟩
def df_check_number : He5.DefA := ⟨fun K => He.fAd K ("check_number", none), "check_number", "check_number", defArgs s_check_number, defBody s_check_number, defScope s_check_number, [.non], []⟩
def df_BadSizeD_initD : He5.DefA := ⟨fun K => He.fAd K ("BadSize", some "__init__"), "__init__", "BadSize.__init__", defArgs s_BadSizeD_initD, defBody s_BadSizeD_initD, defScope s_BadSizeD_initD, [], []⟩
def df_check_size : He5.DefA := ⟨fun K => He.fAd K ("check_size", none), "check_size", "check_size", defArgs s_check_size, defBody s_check_size, defScope s_check_size, [], []⟩
def df_lowest_terms : He5.DefA := ⟨fun K => He.fAd K ("lowest_terms", none), "lowest_terms", "lowest_terms", defArgs s_lowest_terms, defBody s_lowest_terms, defScope s_lowest_terms, [], []⟩
def df_PolyD_initD : He5.DefA := ⟨fun K => He.fAd K ("Poly", some "__init__"), "__init__", "Poly.__init__", defArgs s_PolyD_initD, defBody s_PolyD_initD, defScope s_PolyD_initD, [.int 1], []⟩
def df_RatioD_initD : He5.DefA := ⟨fun K => He.fAd K ("Ratio", some "__init__"), "__init__", "Ratio.__init__", defArgs s_RatioD_initD, defBody s_RatioD_initD, defScope s_RatioD_initD, [.int 1], []⟩
def df_law_times_line : He5.DefA := ⟨fun K => He.fAd K ("_law_times_line", none), "_law_times_line", "_law_times_line", defArgs s_law_times_line, defBody s_law_times_line, defScope s_law_times_line, [], []⟩
def df_law_along : He5.DefA := ⟨fun K => He.fAd K ("_law_along", none), "_law_along", "_law_along", defArgs s_law_along, defBody s_law_along, defScope s_law_along, [], []⟩
def df_law_is : He5.DefA := ⟨fun K => He.fAd K ("_law_is", none), "_law_is", "_law_is", defArgs s_law_is, defBody s_law_is, defScope s_law_is, [], []⟩
def df_law_are : He5.DefA := ⟨fun K => He.fAd K ("_law_are", none), "_law_are", "_law_are", defArgs s_law_are, defBody s_law_are, defScope s_law_are, [], []⟩
def df_law_rows : He5.DefA := ⟨fun K => He.fAd K ("_law_rows", none), "_law_rows", "_law_rows", defArgs s_law_rows, defBody s_law_rows, defScope s_law_rows, [], []⟩
def df_law_corners : He5.DefA := ⟨fun K => He.fAd K ("_law_corners", none), "_law_corners", "_law_corners", defArgs s_law_corners, defBody s_law_corners, defScope s_law_corners, [], []⟩
def df_CrossedD_initD : He5.DefA := ⟨fun K => He.fAd K ("Crossed", some "__init__"), "__init__", "Crossed.__init__", defArgs s_CrossedD_initD, defBody s_CrossedD_initD, defScope s_CrossedD_initD, [], []⟩
def df_Ratio_compare : He5.DefA := ⟨fun K => He.fAd K ("Ratio", some "compare"), "compare", "Ratio.compare", defArgs s_Ratio_compare, defBody s_Ratio_compare, defScope s_Ratio_compare, [], []⟩
def df_Poly_made : He5.DefA := ⟨fun K => He5.wf K (He.ga K "Poly") "staticmethod" "made", "made", "Poly.made", defArgs s_Poly_made, defBody s_Poly_made, defScope s_Poly_made, [], []⟩
def df_power_row : He5.DefA := ⟨fun K => He.fAd K ("power_row", none), "power_row", "power_row", defArgs s_power_row, defBody s_power_row, defScope s_power_row, [], []⟩
def df_Poly_shifted : He5.DefA := ⟨fun K => He.fAd K ("Poly", some "shifted"), "shifted", "Poly.shifted", defArgs s_Poly_shifted, defBody s_Poly_shifted, defScope s_Poly_shifted, [], []⟩
def df_Poly_stretched : He5.DefA := ⟨fun K => He.fAd K ("Poly", some "stretched"), "stretched", "Poly.stretched", defArgs s_Poly_stretched, defBody s_Poly_stretched, defScope s_Poly_stretched, [], []⟩
def df_RatioD_subD : He5.DefA := ⟨fun K => He.fAd K ("Ratio", some "__sub__"), "__sub__", "Ratio.__sub__", defArgs s_RatioD_subD, defBody s_RatioD_subD, defScope s_RatioD_subD, [], []⟩
def df_corner_tops : He5.DefA := ⟨fun K => He.fAd K ("corner_tops", none), "corner_tops", "corner_tops", defArgs s_corner_tops, defBody s_corner_tops, defScope s_corner_tops, [], []⟩
def df_corner_numbers : He5.DefA := ⟨fun K => He.fAd K ("corner_numbers", none), "corner_numbers", "corner_numbers", defArgs s_corner_numbers, defBody s_corner_numbers, defScope s_corner_numbers, [], []⟩
def df_law_fell : He5.DefA := ⟨fun K => He.fAd K ("_law_fell", none), "_law_fell", "_law_fell", defArgs s_law_fell, defBody s_law_fell, defScope s_law_fell, [], []⟩
def df_law_crossed : He5.DefA := ⟨fun K => He.fAd K ("_law_crossed", none), "_law_crossed", "_law_crossed", defArgs s_law_crossed, defBody s_law_crossed, defScope s_law_crossed, [], []⟩
def df_law_gcd : He5.DefA := ⟨fun K => He.fAd K ("_law_gcd", none), "_law_gcd", "_law_gcd", defArgs s_law_gcd, defBody s_law_gcd, defScope s_law_gcd, [], []⟩
def df_law_bend : He5.DefA := ⟨fun K => He.fAd K ("_law_bend", none), "_law_bend", "_law_bend", defArgs s_law_bend, defBody s_law_bend, defScope s_law_bend, [], []⟩
def df_law_halves : He5.DefA := ⟨fun K => He.fAd K ("_law_halves", none), "_law_halves", "_law_halves", defArgs s_law_halves, defBody s_law_halves, defScope s_law_halves, [], []⟩
def df_law_ratios : He5.DefA := ⟨fun K => He.fAd K ("_law_ratios", none), "_law_ratios", "_law_ratios", defArgs s_law_ratios, defBody s_law_ratios, defScope s_law_ratios, [], []⟩
def df_halved_tops : He5.DefA := ⟨fun K => He.fAd K ("halved_tops", none), "halved_tops", "halved_tops", defArgs s_halved_tops, defBody s_halved_tops, defScope s_halved_tops, [], []⟩
def df_halved : He5.DefA := ⟨fun K => He.fAd K ("halved", none), "halved", "halved", defArgs s_halved, defBody s_halved, defScope s_halved, [], []⟩
def df_law_halved : He5.DefA := ⟨fun K => He.fAd K ("_law_halved", none), "_law_halved", "_law_halved", defArgs s_law_halved, defBody s_law_halved, defScope s_law_halved, [], []⟩
def df_law_take : He5.DefA := ⟨fun K => He.fAd K ("_law_take", none), "_law_take", "_law_take", defArgs s_law_take, defBody s_law_take, defScope s_law_take, [], []⟩
def df_law_turn : He5.DefA := ⟨fun K => He.fAd K ("_law_turn", none), "_law_turn", "_law_turn", defArgs s_law_turn, defBody s_law_turn, defScope s_law_turn, [], []⟩
def df_law_list : He5.DefA := ⟨fun K => He.fAd K ("_law_list", none), "_law_list", "_law_list", defArgs s_law_list, defBody s_law_list, defScope s_law_list, [], []⟩
def df_law_whole : He5.DefA := ⟨fun K => He.fAd K ("_law_whole", none), "_law_whole", "_law_whole", defArgs s_law_whole, defBody s_law_whole, defScope s_law_whole, [], []⟩
def df_law_size : He5.DefA := ⟨fun K => He.fAd K ("_law_size", none), "_law_size", "_law_size", defArgs s_law_size, defBody s_law_size, defScope s_law_size, [], []⟩
def df_law_value : He5.DefA := ⟨fun K => He.fAd K ("_law_value", none), "_law_value", "_law_value", defArgs s_law_value, defBody s_law_value, defScope s_law_value, [], []⟩
def df_law_low : He5.DefA := ⟨fun K => He.fAd K ("_law_low", none), "_law_low", "_law_low", defArgs s_law_low, defBody s_law_low, defScope s_law_low, [], []⟩
def df_law_world : He5.DefA := ⟨fun K => He.fAd K ("_law_world", none), "_law_world", "_law_world", defArgs s_law_world, defBody s_law_world, defScope s_law_world, [], []⟩
def df_moved_to_end : He5.DefA := ⟨fun K => He.fAd K ("moved_to_end", none), "moved_to_end", "moved_to_end", defArgs s_moved_to_end, defBody s_moved_to_end, defScope s_moved_to_end, [], []⟩
def df_end_numbers : He5.DefA := ⟨fun K => He.fAd K ("end_numbers", none), "end_numbers", "end_numbers", defArgs s_end_numbers, defBody s_end_numbers, defScope s_end_numbers, [], []⟩
def df_law : He5.DefA := ⟨fun K => He.fAd K ("law", none), "law", "law", defArgs s_law, defBody s_law, defScope s_law, [], []⟩
def fn : List He5.DefA := [df_OutOfBoundsD_initD, df_check_number, df_BadSizeD_initD, df_check_size, df_lowest_terms, df_PolyD_initD, df_RatioD_initD, df_law_times_line, df_law_along, df_law_is, df_law_are, df_law_rows, df_law_corners, df_CrossedD_initD, df_Ratio_compare, df_Poly_made, df_power_row, df_Poly_shifted, df_Poly_stretched, df_RatioD_subD, df_corner_tops, df_corner_numbers, df_law_fell, df_law_crossed, df_law_gcd, df_law_bend, df_law_halves, df_law_ratios, df_halved_tops, df_halved, df_law_halved, df_law_take, df_law_turn, df_law_list, df_law_whole, df_law_size, df_law_value, df_law_low, df_law_world, df_moved_to_end, df_end_numbers, df_law]
def fb : List Chk := [cGlo "BadSize", cGlo "Crossed", cGlo "NoughtError", cGlo "OutOfBounds", cGlo "Poly", cGlo "Ratio", cGlo "ZeroBottom", cGlo "_law_along", cGlo "_law_are", cGlo "_law_bend", cGlo "_law_corners", cGlo "_law_crossed", cGlo "_law_fell", cGlo "_law_gcd", cGlo "_law_halved", cGlo "_law_halves", cGlo "_law_is", cGlo "_law_list", cGlo "_law_low", cGlo "_law_ratios", cGlo "_law_rows", cGlo "_law_size", cGlo "_law_take", cGlo "_law_times_line", cGlo "_law_turn", cGlo "_law_value", cGlo "_law_whole", cGlo "_law_world", cGlo "check_number", cGlo "check_size", cGlo "corner_numbers", cGlo "corner_tops", cGlo "end_numbers", cGlo "halved", cGlo "halved_tops", cGlo "law", cGlo "lowest_terms", cGlo "moved_to_end", cGlo "power_row", cFree "abs", cFree "bool", cVal "comb" "math.comb", cFree "enumerate", cVal "gcd" "math.gcd", cFree "int", cFree "isinstance", cVal "lcm" "math.lcm", cFree "len", cFree "list", cFree "max", cFree "range", cFree "staticmethod", cFree "sum", cFree "tuple", cFree "zip", cCls "Ratio", cIns "Ratio", cMk "Ratio", cSelf "Ratio", cNo "Ratio" "bottom", cNo "Ratio" "top", cMeth "Ratio" "compare", cMeth "Ratio" "__sub__", cCls "Poly", cIns "Poly", cMk "Poly", cSelf "Poly", cNo "Poly" "degree", cNo "Poly" "numbers", cNo "Poly" "over", cRead "Poly", cStat "Poly" "made", cMeth "Poly" "shifted", cMeth "Poly" "stretched", cOex "BadSize", cNo "BadSize" "size", cOex "Crossed", cNo "Crossed" "low", cNo "Crossed" "high", cOex "OutOfBounds", cNo "OutOfBounds" "value", cExc0 "ZeroBottom", cExm "BadSize" "NoughtError" true, cExm "Crossed" "NoughtError" true, cExm "OutOfBounds" "NoughtError" true, cExm "ZeroBottom" "NoughtError" true, cExcC "BadSize", cExcC "Crossed", cExcC "OutOfBounds", cExcC "ZeroBottom", cKit "Crossed" "Crossed" true, cKit "Crossed" "BadSize" false, cKit "BadSize" "BadSize" true, cKit "BadSize" "Crossed" false, cKit "Ratio" "Ratio" true]
abbrev Lw (K : Frag) (mg : Str → Option Value) : Prop := LwB fb fn K mg
section
variable {K : Frag} {mg : Str → Option Value}
theorem Lw.g_BadSize (L : Lw K mg) : mg "BadSize" = some (.ref (He.ga K "BadSize")) := by
  obtain ⟨h, X, G⟩ := L.at_
  exact He.glo_ok X G (L.c.fact 0 rfl)
theorem Lw.g_Crossed (L : Lw K mg) : mg "Crossed" = some (.ref (He.ga K "Crossed")) := by
  obtain ⟨h, X, G⟩ := L.at_
  exact He.glo_ok X G (L.c.fact 1 rfl)
theorem Lw.g_NoughtError (L : Lw K mg) : mg "NoughtError" = some (.ref (He.ga K "NoughtError")) := by
  obtain ⟨h, X, G⟩ := L.at_
  exact He.glo_ok X G (L.c.fact 2 rfl)
theorem Lw.g_OutOfBounds (L : Lw K mg) : mg "OutOfBounds" = some (.ref (He.ga K "OutOfBounds")) := by
  obtain ⟨h, X, G⟩ := L.at_
  exact He.glo_ok X G (L.c.fact 3 rfl)
theorem Lw.g_Poly (L : Lw K mg) : mg "Poly" = some (.ref (He.ga K "Poly")) := by
  obtain ⟨h, X, G⟩ := L.at_
  exact He.glo_ok X G (L.c.fact 4 rfl)
theorem Lw.g_Ratio (L : Lw K mg) : mg "Ratio" = some (.ref (He.ga K "Ratio")) := by
  obtain ⟨h, X, G⟩ := L.at_
  exact He.glo_ok X G (L.c.fact 5 rfl)
theorem Lw.g_ZeroBottom (L : Lw K mg) : mg "ZeroBottom" = some (.ref (He.ga K "ZeroBottom")) := by
  obtain ⟨h, X, G⟩ := L.at_
  exact He.glo_ok X G (L.c.fact 6 rfl)
theorem Lw.g_law_along (L : Lw K mg) : mg "_law_along" = some (.ref (He.ga K "_law_along")) := by
  obtain ⟨h, X, G⟩ := L.at_
  exact He.glo_ok X G (L.c.fact 7 rfl)
theorem Lw.g_law_are (L : Lw K mg) : mg "_law_are" = some (.ref (He.ga K "_law_are")) := by
  obtain ⟨h, X, G⟩ := L.at_
  exact He.glo_ok X G (L.c.fact 8 rfl)
theorem Lw.g_law_bend (L : Lw K mg) : mg "_law_bend" = some (.ref (He.ga K "_law_bend")) := by
  obtain ⟨h, X, G⟩ := L.at_
  exact He.glo_ok X G (L.c.fact 9 rfl)
theorem Lw.g_law_corners (L : Lw K mg) : mg "_law_corners" = some (.ref (He.ga K "_law_corners")) := by
  obtain ⟨h, X, G⟩ := L.at_
  exact He.glo_ok X G (L.c.fact 10 rfl)
theorem Lw.g_law_crossed (L : Lw K mg) : mg "_law_crossed" = some (.ref (He.ga K "_law_crossed")) := by
  obtain ⟨h, X, G⟩ := L.at_
  exact He.glo_ok X G (L.c.fact 11 rfl)
theorem Lw.g_law_fell (L : Lw K mg) : mg "_law_fell" = some (.ref (He.ga K "_law_fell")) := by
  obtain ⟨h, X, G⟩ := L.at_
  exact He.glo_ok X G (L.c.fact 12 rfl)
theorem Lw.g_law_gcd (L : Lw K mg) : mg "_law_gcd" = some (.ref (He.ga K "_law_gcd")) := by
  obtain ⟨h, X, G⟩ := L.at_
  exact He.glo_ok X G (L.c.fact 13 rfl)
theorem Lw.g_law_halved (L : Lw K mg) : mg "_law_halved" = some (.ref (He.ga K "_law_halved")) := by
  obtain ⟨h, X, G⟩ := L.at_
  exact He.glo_ok X G (L.c.fact 14 rfl)
theorem Lw.g_law_halves (L : Lw K mg) : mg "_law_halves" = some (.ref (He.ga K "_law_halves")) := by
  obtain ⟨h, X, G⟩ := L.at_
  exact He.glo_ok X G (L.c.fact 15 rfl)
theorem Lw.g_law_is (L : Lw K mg) : mg "_law_is" = some (.ref (He.ga K "_law_is")) := by
  obtain ⟨h, X, G⟩ := L.at_
  exact He.glo_ok X G (L.c.fact 16 rfl)
theorem Lw.g_law_list (L : Lw K mg) : mg "_law_list" = some (.ref (He.ga K "_law_list")) := by
  obtain ⟨h, X, G⟩ := L.at_
  exact He.glo_ok X G (L.c.fact 17 rfl)
theorem Lw.g_law_low (L : Lw K mg) : mg "_law_low" = some (.ref (He.ga K "_law_low")) := by
  obtain ⟨h, X, G⟩ := L.at_
  exact He.glo_ok X G (L.c.fact 18 rfl)
theorem Lw.g_law_ratios (L : Lw K mg) : mg "_law_ratios" = some (.ref (He.ga K "_law_ratios")) := by
  obtain ⟨h, X, G⟩ := L.at_
  exact He.glo_ok X G (L.c.fact 19 rfl)
theorem Lw.g_law_rows (L : Lw K mg) : mg "_law_rows" = some (.ref (He.ga K "_law_rows")) := by
  obtain ⟨h, X, G⟩ := L.at_
  exact He.glo_ok X G (L.c.fact 20 rfl)
theorem Lw.g_law_size (L : Lw K mg) : mg "_law_size" = some (.ref (He.ga K "_law_size")) := by
  obtain ⟨h, X, G⟩ := L.at_
  exact He.glo_ok X G (L.c.fact 21 rfl)
theorem Lw.g_law_take (L : Lw K mg) : mg "_law_take" = some (.ref (He.ga K "_law_take")) := by
  obtain ⟨h, X, G⟩ := L.at_
  exact He.glo_ok X G (L.c.fact 22 rfl)
theorem Lw.g_law_times_line (L : Lw K mg) : mg "_law_times_line" = some (.ref (He.ga K "_law_times_line")) := by
  obtain ⟨h, X, G⟩ := L.at_
  exact He.glo_ok X G (L.c.fact 23 rfl)
theorem Lw.g_law_turn (L : Lw K mg) : mg "_law_turn" = some (.ref (He.ga K "_law_turn")) := by
  obtain ⟨h, X, G⟩ := L.at_
  exact He.glo_ok X G (L.c.fact 24 rfl)
theorem Lw.g_law_value (L : Lw K mg) : mg "_law_value" = some (.ref (He.ga K "_law_value")) := by
  obtain ⟨h, X, G⟩ := L.at_
  exact He.glo_ok X G (L.c.fact 25 rfl)
theorem Lw.g_law_whole (L : Lw K mg) : mg "_law_whole" = some (.ref (He.ga K "_law_whole")) := by
  obtain ⟨h, X, G⟩ := L.at_
  exact He.glo_ok X G (L.c.fact 26 rfl)
theorem Lw.g_law_world (L : Lw K mg) : mg "_law_world" = some (.ref (He.ga K "_law_world")) := by
  obtain ⟨h, X, G⟩ := L.at_
  exact He.glo_ok X G (L.c.fact 27 rfl)
theorem Lw.g_check_number (L : Lw K mg) : mg "check_number" = some (.ref (He.ga K "check_number")) := by
  obtain ⟨h, X, G⟩ := L.at_
  exact He.glo_ok X G (L.c.fact 28 rfl)
theorem Lw.g_check_size (L : Lw K mg) : mg "check_size" = some (.ref (He.ga K "check_size")) := by
  obtain ⟨h, X, G⟩ := L.at_
  exact He.glo_ok X G (L.c.fact 29 rfl)
theorem Lw.g_corner_numbers (L : Lw K mg) : mg "corner_numbers" = some (.ref (He.ga K "corner_numbers")) := by
  obtain ⟨h, X, G⟩ := L.at_
  exact He.glo_ok X G (L.c.fact 30 rfl)
theorem Lw.g_corner_tops (L : Lw K mg) : mg "corner_tops" = some (.ref (He.ga K "corner_tops")) := by
  obtain ⟨h, X, G⟩ := L.at_
  exact He.glo_ok X G (L.c.fact 31 rfl)
theorem Lw.g_end_numbers (L : Lw K mg) : mg "end_numbers" = some (.ref (He.ga K "end_numbers")) := by
  obtain ⟨h, X, G⟩ := L.at_
  exact He.glo_ok X G (L.c.fact 32 rfl)
theorem Lw.g_halved (L : Lw K mg) : mg "halved" = some (.ref (He.ga K "halved")) := by
  obtain ⟨h, X, G⟩ := L.at_
  exact He.glo_ok X G (L.c.fact 33 rfl)
theorem Lw.g_halved_tops (L : Lw K mg) : mg "halved_tops" = some (.ref (He.ga K "halved_tops")) := by
  obtain ⟨h, X, G⟩ := L.at_
  exact He.glo_ok X G (L.c.fact 34 rfl)
theorem Lw.g_law (L : Lw K mg) : mg "law" = some (.ref (He.ga K "law")) := by
  obtain ⟨h, X, G⟩ := L.at_
  exact He.glo_ok X G (L.c.fact 35 rfl)
theorem Lw.g_lowest_terms (L : Lw K mg) : mg "lowest_terms" = some (.ref (He.ga K "lowest_terms")) := by
  obtain ⟨h, X, G⟩ := L.at_
  exact He.glo_ok X G (L.c.fact 36 rfl)
theorem Lw.g_moved_to_end (L : Lw K mg) : mg "moved_to_end" = some (.ref (He.ga K "moved_to_end")) := by
  obtain ⟨h, X, G⟩ := L.at_
  exact He.glo_ok X G (L.c.fact 37 rfl)
theorem Lw.g_power_row (L : Lw K mg) : mg "power_row" = some (.ref (He.ga K "power_row")) := by
  obtain ⟨h, X, G⟩ := L.at_
  exact He.glo_ok X G (L.c.fact 38 rfl)
theorem Lw.f_abs (L : Lw K mg) : mg "abs" = none := by
  obtain ⟨h, X, G⟩ := L.at_
  exact He.free_ok X G (L.c.fact 39 rfl)
theorem Lw.f_bool (L : Lw K mg) : mg "bool" = none := by
  obtain ⟨h, X, G⟩ := L.at_
  exact He.free_ok X G (L.c.fact 40 rfl)
theorem Lw.v_comb (L : Lw K mg) : mg "comb" = some (.builtin "math.comb") := by
  obtain ⟨h, X, G⟩ := L.at_
  exact PySem.W.mg_of X G (He.eqO_ok (L.c.fact 41 rfl))
theorem Lw.f_enumerate (L : Lw K mg) : mg "enumerate" = none := by
  obtain ⟨h, X, G⟩ := L.at_
  exact He.free_ok X G (L.c.fact 42 rfl)
theorem Lw.v_gcd (L : Lw K mg) : mg "gcd" = some (.builtin "math.gcd") := by
  obtain ⟨h, X, G⟩ := L.at_
  exact PySem.W.mg_of X G (He.eqO_ok (L.c.fact 43 rfl))
theorem Lw.f_int (L : Lw K mg) : mg "int" = none := by
  obtain ⟨h, X, G⟩ := L.at_
  exact He.free_ok X G (L.c.fact 44 rfl)
theorem Lw.f_isinstance (L : Lw K mg) : mg "isinstance" = none := by
  obtain ⟨h, X, G⟩ := L.at_
  exact He.free_ok X G (L.c.fact 45 rfl)
theorem Lw.v_lcm (L : Lw K mg) : mg "lcm" = some (.builtin "math.lcm") := by
  obtain ⟨h, X, G⟩ := L.at_
  exact PySem.W.mg_of X G (He.eqO_ok (L.c.fact 46 rfl))
theorem Lw.f_len (L : Lw K mg) : mg "len" = none := by
  obtain ⟨h, X, G⟩ := L.at_
  exact He.free_ok X G (L.c.fact 47 rfl)
theorem Lw.f_list (L : Lw K mg) : mg "list" = none := by
  obtain ⟨h, X, G⟩ := L.at_
  exact He.free_ok X G (L.c.fact 48 rfl)
theorem Lw.f_max (L : Lw K mg) : mg "max" = none := by
  obtain ⟨h, X, G⟩ := L.at_
  exact He.free_ok X G (L.c.fact 49 rfl)
theorem Lw.f_range (L : Lw K mg) : mg "range" = none := by
  obtain ⟨h, X, G⟩ := L.at_
  exact He.free_ok X G (L.c.fact 50 rfl)
theorem Lw.f_staticmethod (L : Lw K mg) : mg "staticmethod" = none := by
  obtain ⟨h, X, G⟩ := L.at_
  exact He.free_ok X G (L.c.fact 51 rfl)
theorem Lw.f_sum (L : Lw K mg) : mg "sum" = none := by
  obtain ⟨h, X, G⟩ := L.at_
  exact He.free_ok X G (L.c.fact 52 rfl)
theorem Lw.f_tuple (L : Lw K mg) : mg "tuple" = none := by
  obtain ⟨h, X, G⟩ := L.at_
  exact He.free_ok X G (L.c.fact 53 rfl)
theorem Lw.f_zip (L : Lw K mg) : mg "zip" = none := by
  obtain ⟨h, X, G⟩ := L.at_
  exact He.free_ok X G (L.c.fact 54 rfl)
theorem Lw.cl_Ratio (L : Lw K mg) : Cls K (He.ga K "Ratio") := He.cls_ok (L.c.fact 55 rfl)
theorem Lw.in_Ratio (L : Lw K mg) : InsK K (He.ga K "Ratio") := insK_ok (L.c.fact 56 rfl)
theorem Lw.mk_Ratio (L : Lw K mg) : Mk K (He.ga K "Ratio") (He.ma K (He.ga K "Ratio") "__init__") := He.mkr_ok (L.c.fact 57 rfl)
theorem Lw.sf_Ratio (L : Lw K mg) : PySem.W.selfFirst K (He.ga K "Ratio") = true := (L.c.fact 58 rfl)
theorem Lw.na_Ratio_bottom (L : Lw K mg) : NoAttr K (He.ga K "Ratio") "bottom" := He.noat_ok (L.c.fact 59 rfl)
theorem Lw.na_Ratio_top (L : Lw K mg) : NoAttr K (He.ga K "Ratio") "top" := He.noat_ok (L.c.fact 60 rfl)
theorem Lw.me_Ratio_compare (L : Lw K mg) : Meth K (He.ga K "Ratio") "compare" (He.ma K (He.ga K "Ratio") "compare") := He.meth_ok (L.c.fact 61 rfl)
theorem Lw.me_RatioD_subD (L : Lw K mg) : Meth K (He.ga K "Ratio") "__sub__" (He.ma K (He.ga K "Ratio") "__sub__") := He.meth_ok (L.c.fact 62 rfl)
theorem Lw.cl_Poly (L : Lw K mg) : Cls K (He.ga K "Poly") := He.cls_ok (L.c.fact 63 rfl)
theorem Lw.in_Poly (L : Lw K mg) : InsK K (He.ga K "Poly") := insK_ok (L.c.fact 64 rfl)
theorem Lw.mk_Poly (L : Lw K mg) : Mk K (He.ga K "Poly") (He.ma K (He.ga K "Poly") "__init__") := He.mkr_ok (L.c.fact 65 rfl)
theorem Lw.sf_Poly (L : Lw K mg) : PySem.W.selfFirst K (He.ga K "Poly") = true := (L.c.fact 66 rfl)
theorem Lw.na_Poly_degree (L : Lw K mg) : NoAttr K (He.ga K "Poly") "degree" := He.noat_ok (L.c.fact 67 rfl)
theorem Lw.na_Poly_numbers (L : Lw K mg) : NoAttr K (He.ga K "Poly") "numbers" := He.noat_ok (L.c.fact 68 rfl)
theorem Lw.na_Poly_over (L : Lw K mg) : NoAttr K (He.ga K "Poly") "over" := He.noat_ok (L.c.fact 69 rfl)
theorem Lw.cr_Poly (L : Lw K mg) : ClX.CRead K (He.ga K "Poly") (.type "type") := cread_ok (L.c.fact 70 rfl)
theorem Lw.sm_Poly_made (L : Lw K mg) : SMet K (He.ga K "Poly") "made" (He.ma K (He.ga K "Poly") "made") (He5.wf K (He.ga K "Poly") "staticmethod" "made") := smet_ok (L.c.fact 71 rfl)
theorem Lw.me_Poly_shifted (L : Lw K mg) : Meth K (He.ga K "Poly") "shifted" (He.ma K (He.ga K "Poly") "shifted") := He.meth_ok (L.c.fact 72 rfl)
theorem Lw.me_Poly_stretched (L : Lw K mg) : Meth K (He.ga K "Poly") "stretched" (He.ma K (He.ga K "Poly") "stretched") := He.meth_ok (L.c.fact 73 rfl)
theorem Lw.ox_BadSize (L : Lw K mg) : OexC K (He.ga K "BadSize") ∧ PySem.W.findIn K (.ref (He.ga K "BadSize")) "__init__" = some (some (.ref (He.ma K (He.ga K "BadSize") "__init__"))) ∧ PySem.W.typeIn K (.ref (He.ma K (He.ga K "BadSize") "__init__")) = some (.type "function") := oex_ok (L.c.fact 74 rfl)
theorem Lw.na_BadSize_size (L : Lw K mg) : NoAttr K (He.ga K "BadSize") "size" := He.noat_ok (L.c.fact 75 rfl)
theorem Lw.ox_Crossed (L : Lw K mg) : OexC K (He.ga K "Crossed") ∧ PySem.W.findIn K (.ref (He.ga K "Crossed")) "__init__" = some (some (.ref (He.ma K (He.ga K "Crossed") "__init__"))) ∧ PySem.W.typeIn K (.ref (He.ma K (He.ga K "Crossed") "__init__")) = some (.type "function") := oex_ok (L.c.fact 76 rfl)
theorem Lw.na_Crossed_low (L : Lw K mg) : NoAttr K (He.ga K "Crossed") "low" := He.noat_ok (L.c.fact 77 rfl)
theorem Lw.na_Crossed_high (L : Lw K mg) : NoAttr K (He.ga K "Crossed") "high" := He.noat_ok (L.c.fact 78 rfl)
theorem Lw.ox_OutOfBounds (L : Lw K mg) : OexC K (He.ga K "OutOfBounds") ∧ PySem.W.findIn K (.ref (He.ga K "OutOfBounds")) "__init__" = some (some (.ref (He.ma K (He.ga K "OutOfBounds") "__init__"))) ∧ PySem.W.typeIn K (.ref (He.ma K (He.ga K "OutOfBounds") "__init__")) = some (.type "function") := oex_ok (L.c.fact 79 rfl)
theorem Lw.na_OutOfBounds_value (L : Lw K mg) : NoAttr K (He.ga K "OutOfBounds") "value" := He.noat_ok (L.c.fact 80 rfl)
theorem Lw.e0_ZeroBottom (L : Lw K mg) : PySem.W.excIn K (He.ga K "ZeroBottom") He.veBase "ValueError.__new__" = true ∧ PySem.W.keepIn K (.ref (He.ga K "ZeroBottom")) = true ∧ PySem.W.subIn K (.ref (He.ga K "ZeroBottom")) (.type "BaseException") = some true ∧ PySem.W.typeIn K (.ref (He.ga K "ZeroBottom")) = some (.type "type") := He.exc_ok (L.c.fact 81 rfl)
theorem Lw.xi_ZeroBottom (L : Lw K mg) : PySem.W.excIn K (He.ga K "ZeroBottom") He.veBase "ValueError.__new__" = true := (L.e0_ZeroBottom).1
theorem Lw.kp_ZeroBottom (L : Lw K mg) : PySem.W.keepIn K (.ref (He.ga K "ZeroBottom")) = true := (L.e0_ZeroBottom).2.1
theorem Lw.xb_ZeroBottom (L : Lw K mg) : PySem.W.subIn K (.ref (He.ga K "ZeroBottom")) (.type "BaseException") = some true := (L.e0_ZeroBottom).2.2.1
theorem Lw.xt_ZeroBottom (L : Lw K mg) : PySem.W.typeIn K (.ref (He.ga K "ZeroBottom")) = some (.type "type") := (L.e0_ZeroBottom).2.2.2
theorem Lw.xm_BadSize_NoughtError (L : Lw K mg) : PySem.W.exmOne K (.ref (He.ga K "BadSize")) (.ref (He.ga K "NoughtError")) = some true := He.exm_ok (L.c.fact 82 rfl)
theorem Lw.xm_Crossed_NoughtError (L : Lw K mg) : PySem.W.exmOne K (.ref (He.ga K "Crossed")) (.ref (He.ga K "NoughtError")) = some true := He.exm_ok (L.c.fact 83 rfl)
theorem Lw.xm_OutOfBounds_NoughtError (L : Lw K mg) : PySem.W.exmOne K (.ref (He.ga K "OutOfBounds")) (.ref (He.ga K "NoughtError")) = some true := He.exm_ok (L.c.fact 84 rfl)
theorem Lw.xm_ZeroBottom_NoughtError (L : Lw K mg) : PySem.W.exmOne K (.ref (He.ga K "ZeroBottom")) (.ref (He.ga K "NoughtError")) = some true := He.exm_ok (L.c.fact 85 rfl)
theorem Lw.ec_BadSize (L : Lw K mg) : ExcC K (He.ga K "BadSize") := excC_ok (L.c.fact 86 rfl)
theorem Lw.xf_BadSize (L : Lw K mg) : XfC K (He.ga K "BadSize") := (L.ec_BadSize).xf
theorem Lw.ec_Crossed (L : Lw K mg) : ExcC K (He.ga K "Crossed") := excC_ok (L.c.fact 87 rfl)
theorem Lw.xf_Crossed (L : Lw K mg) : XfC K (He.ga K "Crossed") := (L.ec_Crossed).xf
theorem Lw.ec_OutOfBounds (L : Lw K mg) : ExcC K (He.ga K "OutOfBounds") := excC_ok (L.c.fact 88 rfl)
theorem Lw.xf_OutOfBounds (L : Lw K mg) : XfC K (He.ga K "OutOfBounds") := (L.ec_OutOfBounds).xf
theorem Lw.ec_ZeroBottom (L : Lw K mg) : ExcC K (He.ga K "ZeroBottom") := excC_ok (L.c.fact 89 rfl)
theorem Lw.xf_ZeroBottom (L : Lw K mg) : XfC K (He.ga K "ZeroBottom") := (L.ec_ZeroBottom).xf
theorem Lw.kt_Crossed_Crossed (L : Lw K mg) : PySem.W.kitOne K (.ref (He.ga K "Crossed")) (.ref (He.ga K "Crossed")) = some true := of_decide_eq_true (L.c.fact 90 rfl)
theorem Lw.kt_Crossed_BadSize (L : Lw K mg) : PySem.W.kitOne K (.ref (He.ga K "Crossed")) (.ref (He.ga K "BadSize")) = some false := of_decide_eq_true (L.c.fact 91 rfl)
theorem Lw.kt_BadSize_BadSize (L : Lw K mg) : PySem.W.kitOne K (.ref (He.ga K "BadSize")) (.ref (He.ga K "BadSize")) = some true := of_decide_eq_true (L.c.fact 92 rfl)
theorem Lw.kt_BadSize_Crossed (L : Lw K mg) : PySem.W.kitOne K (.ref (He.ga K "BadSize")) (.ref (He.ga K "Crossed")) = some false := of_decide_eq_true (L.c.fact 93 rfl)
theorem Lw.kt_Ratio_Ratio (L : Lw K mg) : PySem.W.kitOne K (.ref (He.ga K "Ratio")) (.ref (He.ga K "Ratio")) = some true := of_decide_eq_true (L.c.fact 94 rfl)
theorem Lw.d_OutOfBoundsD_initD (L : Lw K mg) : ∃ fd, FunD K "__init__" "OutOfBounds.__init__" (defArgs s_OutOfBoundsD_initD) (defBody s_OutOfBoundsD_initD) (defScope s_OutOfBoundsD_initD) (df_OutOfBoundsD_initD.dvs K) (df_OutOfBoundsD_initD.kws K) (He.fAd K ("OutOfBounds", some "__init__")) fd := L.c.def_ 0 (d := df_OutOfBoundsD_initD) rfl
theorem Lw.d_check_number (L : Lw K mg) : ∃ fd, FunD K "check_number" "check_number" (defArgs s_check_number) (defBody s_check_number) (defScope s_check_number) (df_check_number.dvs K) (df_check_number.kws K) (He.fAd K ("check_number", none)) fd := L.c.def_ 1 (d := df_check_number) rfl
theorem Lw.d_BadSizeD_initD (L : Lw K mg) : ∃ fd, FunD K "__init__" "BadSize.__init__" (defArgs s_BadSizeD_initD) (defBody s_BadSizeD_initD) (defScope s_BadSizeD_initD) (df_BadSizeD_initD.dvs K) (df_BadSizeD_initD.kws K) (He.fAd K ("BadSize", some "__init__")) fd := L.c.def_ 2 (d := df_BadSizeD_initD) rfl
theorem Lw.d_check_size (L : Lw K mg) : ∃ fd, FunD K "check_size" "check_size" (defArgs s_check_size) (defBody s_check_size) (defScope s_check_size) (df_check_size.dvs K) (df_check_size.kws K) (He.fAd K ("check_size", none)) fd := L.c.def_ 3 (d := df_check_size) rfl
theorem Lw.d_lowest_terms (L : Lw K mg) : ∃ fd, FunD K "lowest_terms" "lowest_terms" (defArgs s_lowest_terms) (defBody s_lowest_terms) (defScope s_lowest_terms) (df_lowest_terms.dvs K) (df_lowest_terms.kws K) (He.fAd K ("lowest_terms", none)) fd := L.c.def_ 4 (d := df_lowest_terms) rfl
theorem Lw.d_PolyD_initD (L : Lw K mg) : ∃ fd, FunD K "__init__" "Poly.__init__" (defArgs s_PolyD_initD) (defBody s_PolyD_initD) (defScope s_PolyD_initD) (df_PolyD_initD.dvs K) (df_PolyD_initD.kws K) (He.fAd K ("Poly", some "__init__")) fd := L.c.def_ 5 (d := df_PolyD_initD) rfl
theorem Lw.d_RatioD_initD (L : Lw K mg) : ∃ fd, FunD K "__init__" "Ratio.__init__" (defArgs s_RatioD_initD) (defBody s_RatioD_initD) (defScope s_RatioD_initD) (df_RatioD_initD.dvs K) (df_RatioD_initD.kws K) (He.fAd K ("Ratio", some "__init__")) fd := L.c.def_ 6 (d := df_RatioD_initD) rfl
theorem Lw.d_law_times_line (L : Lw K mg) : ∃ fd, FunD K "_law_times_line" "_law_times_line" (defArgs s_law_times_line) (defBody s_law_times_line) (defScope s_law_times_line) (df_law_times_line.dvs K) (df_law_times_line.kws K) (He.fAd K ("_law_times_line", none)) fd := L.c.def_ 7 (d := df_law_times_line) rfl
theorem Lw.d_law_along (L : Lw K mg) : ∃ fd, FunD K "_law_along" "_law_along" (defArgs s_law_along) (defBody s_law_along) (defScope s_law_along) (df_law_along.dvs K) (df_law_along.kws K) (He.fAd K ("_law_along", none)) fd := L.c.def_ 8 (d := df_law_along) rfl
theorem Lw.d_law_is (L : Lw K mg) : ∃ fd, FunD K "_law_is" "_law_is" (defArgs s_law_is) (defBody s_law_is) (defScope s_law_is) (df_law_is.dvs K) (df_law_is.kws K) (He.fAd K ("_law_is", none)) fd := L.c.def_ 9 (d := df_law_is) rfl
theorem Lw.d_law_are (L : Lw K mg) : ∃ fd, FunD K "_law_are" "_law_are" (defArgs s_law_are) (defBody s_law_are) (defScope s_law_are) (df_law_are.dvs K) (df_law_are.kws K) (He.fAd K ("_law_are", none)) fd := L.c.def_ 10 (d := df_law_are) rfl
theorem Lw.d_law_rows (L : Lw K mg) : ∃ fd, FunD K "_law_rows" "_law_rows" (defArgs s_law_rows) (defBody s_law_rows) (defScope s_law_rows) (df_law_rows.dvs K) (df_law_rows.kws K) (He.fAd K ("_law_rows", none)) fd := L.c.def_ 11 (d := df_law_rows) rfl
theorem Lw.d_law_corners (L : Lw K mg) : ∃ fd, FunD K "_law_corners" "_law_corners" (defArgs s_law_corners) (defBody s_law_corners) (defScope s_law_corners) (df_law_corners.dvs K) (df_law_corners.kws K) (He.fAd K ("_law_corners", none)) fd := L.c.def_ 12 (d := df_law_corners) rfl
theorem Lw.d_CrossedD_initD (L : Lw K mg) : ∃ fd, FunD K "__init__" "Crossed.__init__" (defArgs s_CrossedD_initD) (defBody s_CrossedD_initD) (defScope s_CrossedD_initD) (df_CrossedD_initD.dvs K) (df_CrossedD_initD.kws K) (He.fAd K ("Crossed", some "__init__")) fd := L.c.def_ 13 (d := df_CrossedD_initD) rfl
theorem Lw.d_Ratio_compare (L : Lw K mg) : ∃ fd, FunD K "compare" "Ratio.compare" (defArgs s_Ratio_compare) (defBody s_Ratio_compare) (defScope s_Ratio_compare) (df_Ratio_compare.dvs K) (df_Ratio_compare.kws K) (He.fAd K ("Ratio", some "compare")) fd := L.c.def_ 14 (d := df_Ratio_compare) rfl
theorem Lw.d_Poly_made (L : Lw K mg) : ∃ fd, FunD K "made" "Poly.made" (defArgs s_Poly_made) (defBody s_Poly_made) (defScope s_Poly_made) (df_Poly_made.dvs K) (df_Poly_made.kws K) (He5.wf K (He.ga K "Poly") "staticmethod" "made") fd := L.c.def_ 15 (d := df_Poly_made) rfl
theorem Lw.d_power_row (L : Lw K mg) : ∃ fd, FunD K "power_row" "power_row" (defArgs s_power_row) (defBody s_power_row) (defScope s_power_row) (df_power_row.dvs K) (df_power_row.kws K) (He.fAd K ("power_row", none)) fd := L.c.def_ 16 (d := df_power_row) rfl
theorem Lw.d_Poly_shifted (L : Lw K mg) : ∃ fd, FunD K "shifted" "Poly.shifted" (defArgs s_Poly_shifted) (defBody s_Poly_shifted) (defScope s_Poly_shifted) (df_Poly_shifted.dvs K) (df_Poly_shifted.kws K) (He.fAd K ("Poly", some "shifted")) fd := L.c.def_ 17 (d := df_Poly_shifted) rfl
theorem Lw.d_Poly_stretched (L : Lw K mg) : ∃ fd, FunD K "stretched" "Poly.stretched" (defArgs s_Poly_stretched) (defBody s_Poly_stretched) (defScope s_Poly_stretched) (df_Poly_stretched.dvs K) (df_Poly_stretched.kws K) (He.fAd K ("Poly", some "stretched")) fd := L.c.def_ 18 (d := df_Poly_stretched) rfl
theorem Lw.d_RatioD_subD (L : Lw K mg) : ∃ fd, FunD K "__sub__" "Ratio.__sub__" (defArgs s_RatioD_subD) (defBody s_RatioD_subD) (defScope s_RatioD_subD) (df_RatioD_subD.dvs K) (df_RatioD_subD.kws K) (He.fAd K ("Ratio", some "__sub__")) fd := L.c.def_ 19 (d := df_RatioD_subD) rfl
theorem Lw.d_corner_tops (L : Lw K mg) : ∃ fd, FunD K "corner_tops" "corner_tops" (defArgs s_corner_tops) (defBody s_corner_tops) (defScope s_corner_tops) (df_corner_tops.dvs K) (df_corner_tops.kws K) (He.fAd K ("corner_tops", none)) fd := L.c.def_ 20 (d := df_corner_tops) rfl
theorem Lw.d_corner_numbers (L : Lw K mg) : ∃ fd, FunD K "corner_numbers" "corner_numbers" (defArgs s_corner_numbers) (defBody s_corner_numbers) (defScope s_corner_numbers) (df_corner_numbers.dvs K) (df_corner_numbers.kws K) (He.fAd K ("corner_numbers", none)) fd := L.c.def_ 21 (d := df_corner_numbers) rfl
theorem Lw.d_law_fell (L : Lw K mg) : ∃ fd, FunD K "_law_fell" "_law_fell" (defArgs s_law_fell) (defBody s_law_fell) (defScope s_law_fell) (df_law_fell.dvs K) (df_law_fell.kws K) (He.fAd K ("_law_fell", none)) fd := L.c.def_ 22 (d := df_law_fell) rfl
theorem Lw.d_law_crossed (L : Lw K mg) : ∃ fd, FunD K "_law_crossed" "_law_crossed" (defArgs s_law_crossed) (defBody s_law_crossed) (defScope s_law_crossed) (df_law_crossed.dvs K) (df_law_crossed.kws K) (He.fAd K ("_law_crossed", none)) fd := L.c.def_ 23 (d := df_law_crossed) rfl
theorem Lw.d_law_gcd (L : Lw K mg) : ∃ fd, FunD K "_law_gcd" "_law_gcd" (defArgs s_law_gcd) (defBody s_law_gcd) (defScope s_law_gcd) (df_law_gcd.dvs K) (df_law_gcd.kws K) (He.fAd K ("_law_gcd", none)) fd := L.c.def_ 24 (d := df_law_gcd) rfl
theorem Lw.d_law_bend (L : Lw K mg) : ∃ fd, FunD K "_law_bend" "_law_bend" (defArgs s_law_bend) (defBody s_law_bend) (defScope s_law_bend) (df_law_bend.dvs K) (df_law_bend.kws K) (He.fAd K ("_law_bend", none)) fd := L.c.def_ 25 (d := df_law_bend) rfl
theorem Lw.d_law_halves (L : Lw K mg) : ∃ fd, FunD K "_law_halves" "_law_halves" (defArgs s_law_halves) (defBody s_law_halves) (defScope s_law_halves) (df_law_halves.dvs K) (df_law_halves.kws K) (He.fAd K ("_law_halves", none)) fd := L.c.def_ 26 (d := df_law_halves) rfl
theorem Lw.d_law_ratios (L : Lw K mg) : ∃ fd, FunD K "_law_ratios" "_law_ratios" (defArgs s_law_ratios) (defBody s_law_ratios) (defScope s_law_ratios) (df_law_ratios.dvs K) (df_law_ratios.kws K) (He.fAd K ("_law_ratios", none)) fd := L.c.def_ 27 (d := df_law_ratios) rfl
theorem Lw.d_halved_tops (L : Lw K mg) : ∃ fd, FunD K "halved_tops" "halved_tops" (defArgs s_halved_tops) (defBody s_halved_tops) (defScope s_halved_tops) (df_halved_tops.dvs K) (df_halved_tops.kws K) (He.fAd K ("halved_tops", none)) fd := L.c.def_ 28 (d := df_halved_tops) rfl
theorem Lw.d_halved (L : Lw K mg) : ∃ fd, FunD K "halved" "halved" (defArgs s_halved) (defBody s_halved) (defScope s_halved) (df_halved.dvs K) (df_halved.kws K) (He.fAd K ("halved", none)) fd := L.c.def_ 29 (d := df_halved) rfl
theorem Lw.d_law_halved (L : Lw K mg) : ∃ fd, FunD K "_law_halved" "_law_halved" (defArgs s_law_halved) (defBody s_law_halved) (defScope s_law_halved) (df_law_halved.dvs K) (df_law_halved.kws K) (He.fAd K ("_law_halved", none)) fd := L.c.def_ 30 (d := df_law_halved) rfl
theorem Lw.d_law_take (L : Lw K mg) : ∃ fd, FunD K "_law_take" "_law_take" (defArgs s_law_take) (defBody s_law_take) (defScope s_law_take) (df_law_take.dvs K) (df_law_take.kws K) (He.fAd K ("_law_take", none)) fd := L.c.def_ 31 (d := df_law_take) rfl
theorem Lw.d_law_turn (L : Lw K mg) : ∃ fd, FunD K "_law_turn" "_law_turn" (defArgs s_law_turn) (defBody s_law_turn) (defScope s_law_turn) (df_law_turn.dvs K) (df_law_turn.kws K) (He.fAd K ("_law_turn", none)) fd := L.c.def_ 32 (d := df_law_turn) rfl
theorem Lw.d_law_list (L : Lw K mg) : ∃ fd, FunD K "_law_list" "_law_list" (defArgs s_law_list) (defBody s_law_list) (defScope s_law_list) (df_law_list.dvs K) (df_law_list.kws K) (He.fAd K ("_law_list", none)) fd := L.c.def_ 33 (d := df_law_list) rfl
theorem Lw.d_law_whole (L : Lw K mg) : ∃ fd, FunD K "_law_whole" "_law_whole" (defArgs s_law_whole) (defBody s_law_whole) (defScope s_law_whole) (df_law_whole.dvs K) (df_law_whole.kws K) (He.fAd K ("_law_whole", none)) fd := L.c.def_ 34 (d := df_law_whole) rfl
theorem Lw.d_law_size (L : Lw K mg) : ∃ fd, FunD K "_law_size" "_law_size" (defArgs s_law_size) (defBody s_law_size) (defScope s_law_size) (df_law_size.dvs K) (df_law_size.kws K) (He.fAd K ("_law_size", none)) fd := L.c.def_ 35 (d := df_law_size) rfl
theorem Lw.d_law_value (L : Lw K mg) : ∃ fd, FunD K "_law_value" "_law_value" (defArgs s_law_value) (defBody s_law_value) (defScope s_law_value) (df_law_value.dvs K) (df_law_value.kws K) (He.fAd K ("_law_value", none)) fd := L.c.def_ 36 (d := df_law_value) rfl
theorem Lw.d_law_low (L : Lw K mg) : ∃ fd, FunD K "_law_low" "_law_low" (defArgs s_law_low) (defBody s_law_low) (defScope s_law_low) (df_law_low.dvs K) (df_law_low.kws K) (He.fAd K ("_law_low", none)) fd := L.c.def_ 37 (d := df_law_low) rfl
theorem Lw.d_law_world (L : Lw K mg) : ∃ fd, FunD K "_law_world" "_law_world" (defArgs s_law_world) (defBody s_law_world) (defScope s_law_world) (df_law_world.dvs K) (df_law_world.kws K) (He.fAd K ("_law_world", none)) fd := L.c.def_ 38 (d := df_law_world) rfl
theorem Lw.d_moved_to_end (L : Lw K mg) : ∃ fd, FunD K "moved_to_end" "moved_to_end" (defArgs s_moved_to_end) (defBody s_moved_to_end) (defScope s_moved_to_end) (df_moved_to_end.dvs K) (df_moved_to_end.kws K) (He.fAd K ("moved_to_end", none)) fd := L.c.def_ 39 (d := df_moved_to_end) rfl
theorem Lw.d_end_numbers (L : Lw K mg) : ∃ fd, FunD K "end_numbers" "end_numbers" (defArgs s_end_numbers) (defBody s_end_numbers) (defScope s_end_numbers) (df_end_numbers.dvs K) (df_end_numbers.kws K) (He.fAd K ("end_numbers", none)) fd := L.c.def_ 40 (d := df_end_numbers) rfl
theorem Lw.d_law (L : Lw K mg) : ∃ fd, FunD K "law" "law" (defArgs s_law) (defBody s_law) (defScope s_law) (df_law.dvs K) (df_law.kws K) (He.fAd K ("law", none)) fd := L.c.def_ 41 (d := df_law) rfl
end
end T
/-! what the module's names reach, each address once by a mask: a cheap look behind the top -/
namespace Z
open PySem PySem.Spec PyProof.Rows L2
/-- those that the mask does not hold, each once -/
def newB {α : Type} : List Addr → Nat → List Addr → (List Addr → Nat → α) → α
  | [], m, acc, k => k acc m
  | a :: r, m, acc, k => HandSHeadRun.frNat a fun a => match Nat.beq (Nat.mod (Nat.shiftRight m a) 2) 1 with
    | true => newB r m acc k
    | false => HandSHeadRun.frNat (Nat.lor m (Nat.shiftLeft 1 a)) fun m => newB r m (a :: acc) k
def asB (g : Addr → Option Obj) : Nat → List Addr → Nat → List Addr → List Addr
  | 0, _, _, acc => acc
  | n + 1, fr, m, acc => newB (fr.flatMap fun a => match g a with
    | some o => He.refsD o
    | none => []) m [] fun nw m => asB g n nw m (nw ++ acc)
def seenG3 (n : Nat) (fb : List Chk) (fn : List He5.DefA) (g : Addr → Option Obj) : SeenZ := seenK2 fb fn (He.frG g (asB g n [mainGlobals] (Nat.shiftLeft 1 mainGlobals) [cStatics, mainGlobals]))
def hookZ3 (n : Nat) (fb : List Chk) (fn : List He5.DefA) : PySem.W.Hook where
  α := SeenZ
  val := fun _ => dueK2 fn
  obs := fun st => seenG3 n fb fn st.heap.get?
  says := fun _ hp => ∃ K : Frag, K.In hp ∧ Says2 fb fn K
  keeps := fun _ _ _ ⟨K, hin, c⟩ kp => ⟨K, PySem.W.Frag.In.keeps hin kp, c⟩
  of := fun _ _ eq => ⟨_, He.frG_in, eq⟩
theorem seenG3_eq {n : Nat} {fb : List Chk} {fn : List He5.DefA} {g : Addr → Option Obj} {st : Shared} (h : ∀ a, g a = st.heap.get? a) : seenG3 n fb fn g = (hookZ3 n fb fn).obs st := by
  rw [show g = st.heap.get? from funext h] <;> rfl
theorem seen_both3 {α : Type} {o : Option α} {g : α → Addr → Option Obj} {n : Nat} {fb1 fb2 : List Chk} {fn1 fn2 : List He5.DefA} (h1 : o.map (fun x => seenG3 n fb1 fn1 (g x)) = some (dueK2 fn1)) (h2 : o.map (fun x => seenG3 n fb2 fn2 (g x)) = some (dueK2 fn2)) :
    o.map (fun x => seenG3 n (fb1 ++ fb2) (fn1 ++ fn2) (g x)) = some (dueK2 (fn1 ++ fn2)) := by
  cases o with
  | none => cases h1
  | some x =>
    have e1 : seenG3 n fb1 fn1 (g x) = dueK2 fn1 := Option.some.inj h1
    have e2 : seenG3 n fb2 fn2 (g x) = dueK2 fn2 := Option.some.inj h2
    show some (seenG3 n (fb1 ++ fb2) (fn1 ++ fn2) (g x)) = _
    unfold seenG3 seenK2 dueK2 at *
    have a1 := congrArg (fun z : SeenZ => z.1) e1
    have a2 := congrArg (fun z : SeenZ => z.1) e2
    have b1 := congrArg (fun z : SeenZ => z.2) e1
    have b2 := congrArg (fun z : SeenZ => z.2) e2
    dsimp only at a1 a2 b1 b2
    obtain ⟨c1, c2⟩ := He.ba a1
    obtain ⟨d1, d2⟩ := He.ba a2
    rw [List.all_append, List.all_append, List.map_append, List.map_append, c1, c2, d1, d2, b1, b2]
    rfl
end Z
namespace T
open PySem PySem.W PySem.Calls PySem.Spec PyProof.Rows L2 Z
abbrev R : PySem.W.OpenRow := PySem.W.OpenLaw.row PySem.Challenge.rw_belownought_k30_halved_corner_numbers
abbrev hk : PySem.W.Hook := hookZ3 6 fb fn
def ob (st : PySem.W.SharedT) : SeenZ := seenG3 6 fb fn (HandSHeadRun.getT st)
theorem ob_eq (st : PySem.W.SharedT) : ob st = hk.obs st.abs := seenG3_eq (HandSHeadRun.getT_eq st)
def loose : List Str := (["_wall", "__name__", "NoughtError", "ZeroBottom", "BadText", "OutOfBounds", "BadSize", "Crossed", "check_number", "check_size", "Ratio", "read_whole", "read_fraction", "joined_terms", "split_terms", "split_body", "written_power", "read_power", "written_poly", "read_poly", "Poly", "lowest_terms", "poly_sum", "power_row", "whole_value", "corner_numbers", "corner_tops", "end_numbers", "moved_to_end", "halved"] : List Str) ++ (["halved_tops", "_law_take", "_law_turn", "_law_gcd", "_law_low", "_law_is", "_law_whole", "_law_times_line", "_law_along", "_law_rows", "_law_corners", "_law_halves", "_law_bend", "_law_are", "_law_ratios", "_law_halved", "_law_fell", "_law_size", "_law_crossed", "_law_world", "_law_list", "_law_value"] : List Str)
theorem runA (w : World) : (HandSHeadRun.wholeF (fun p => HandSHeadRun.stepQ (HandSHeadRun.denQ HandSHeadRun.tabQ) p w) HandSHeadRun.fenceQ 6000 R.prog).map (fun x => HandSHeadRun.looksF R.prog x.1.heap x.2.abs) = some true := by
  kernel_rfl
theorem runB (w : World) : (HandSHeadRun.wholeF (fun p => HandSHeadRun.stepQ (HandSHeadRun.denQ HandSHeadRun.tabQ) p w) HandSHeadRun.fenceQ 6000 R.prog).map (fun x => HandSHeadRun.seenQ (PySem.W.view R.prog [0, 58]) loose (importedModules R.prog.main.body) (fun s => PySem.W.xlAt (PySem.W.view R.prog [0, 58]) [] s && PySem.W.recOk R.toRowW.records s) x.2.abs) = some (PySem.W.openGood (PySem.W.view R.prog [0, 58]) loose) := by
  kernel_rfl
def fb0 : List Chk := [cGlo "BadSize", cGlo "Crossed", cGlo "NoughtError", cGlo "OutOfBounds", cGlo "Poly", cGlo "Ratio", cGlo "ZeroBottom", cGlo "_law_along", cGlo "_law_are", cGlo "_law_bend", cGlo "_law_corners", cGlo "_law_crossed", cGlo "_law_fell", cGlo "_law_gcd", cGlo "_law_halved", cGlo "_law_halves", cGlo "_law_is", cGlo "_law_list", cGlo "_law_low", cGlo "_law_ratios", cGlo "_law_rows", cGlo "_law_size", cGlo "_law_take", cGlo "_law_times_line", cGlo "_law_turn", cGlo "_law_value", cGlo "_law_whole", cGlo "_law_world", cGlo "check_number", cGlo "check_size", cGlo "corner_numbers", cGlo "corner_tops", cGlo "end_numbers", cGlo "halved", cGlo "halved_tops", cGlo "law", cGlo "lowest_terms", cGlo "moved_to_end", cGlo "power_row", cFree "abs", cFree "bool", cVal "comb" "math.comb", cFree "enumerate", cVal "gcd" "math.gcd", cFree "int", cFree "isinstance", cVal "lcm" "math.lcm"]
def fn0 : List He5.DefA := [df_OutOfBoundsD_initD, df_check_number, df_BadSizeD_initD, df_check_size, df_lowest_terms, df_PolyD_initD, df_RatioD_initD, df_law_times_line, df_law_along, df_law_is, df_law_are, df_law_rows, df_law_corners, df_CrossedD_initD, df_Ratio_compare, df_Poly_made, df_power_row, df_Poly_shifted, df_Poly_stretched, df_RatioD_subD, df_corner_tops]
theorem runC0 (w : World) : (HandSHeadRun.wholeF (fun p => HandSHeadRun.stepQ (HandSHeadRun.denQ HandSHeadRun.tabQ) p w) HandSHeadRun.fenceQ 6000 R.prog).map (fun x => seenG3 6 fb0 fn0 (HandSHeadRun.getT x.2)) = some (dueK2 fn0) := by
  kernel_rfl
def fb1 : List Chk := [cFree "len", cFree "list", cFree "max", cFree "range", cFree "staticmethod", cFree "sum", cFree "tuple", cFree "zip", cCls "Ratio", cIns "Ratio", cMk "Ratio", cSelf "Ratio", cNo "Ratio" "bottom", cNo "Ratio" "top", cMeth "Ratio" "compare", cMeth "Ratio" "__sub__", cCls "Poly", cIns "Poly", cMk "Poly", cSelf "Poly", cNo "Poly" "degree", cNo "Poly" "numbers", cNo "Poly" "over", cRead "Poly", cStat "Poly" "made", cMeth "Poly" "shifted", cMeth "Poly" "stretched", cOex "BadSize", cNo "BadSize" "size", cOex "Crossed", cNo "Crossed" "low", cNo "Crossed" "high", cOex "OutOfBounds", cNo "OutOfBounds" "value", cExc0 "ZeroBottom", cExm "BadSize" "NoughtError" true, cExm "Crossed" "NoughtError" true, cExm "OutOfBounds" "NoughtError" true, cExm "ZeroBottom" "NoughtError" true, cExcC "BadSize", cExcC "Crossed", cExcC "OutOfBounds", cExcC "ZeroBottom", cKit "Crossed" "Crossed" true, cKit "Crossed" "BadSize" false, cKit "BadSize" "BadSize" true, cKit "BadSize" "Crossed" false, cKit "Ratio" "Ratio" true]
def fn1 : List He5.DefA := [df_corner_numbers, df_law_fell, df_law_crossed, df_law_gcd, df_law_bend, df_law_halves, df_law_ratios, df_halved_tops, df_halved, df_law_halved, df_law_take, df_law_turn, df_law_list, df_law_whole, df_law_size, df_law_value, df_law_low, df_law_world, df_moved_to_end, df_end_numbers, df_law]
theorem runC1 (w : World) : (HandSHeadRun.wholeF (fun p => HandSHeadRun.stepQ (HandSHeadRun.denQ HandSHeadRun.tabQ) p w) HandSHeadRun.fenceQ 6000 R.prog).map (fun x => seenG3 6 fb1 fn1 (HandSHeadRun.getT x.2)) = some (dueK2 fn1) := by
  kernel_rfl
theorem runC (w : World) : (HandSHeadRun.wholeF (fun p => HandSHeadRun.stepQ (HandSHeadRun.denQ HandSHeadRun.tabQ) p w) HandSHeadRun.fenceQ 6000 R.prog).map (fun x => ob x.2) = some (dueK2 fn) := by
  have e1 : fb = fb0 ++ (fb1) := rfl
  have e2 : fn = fn0 ++ (fn1) := rfl
  unfold ob
  rw [e1, e2]
  exact (seen_both3 (runC0 w) (runC1 w))
theorem run (w : World) : HandSHeadRun.RunEqI R (PySem.W.view R.prog [0, 58]) hk ob 6000 loose w := map_three (runA w) (runB w) (runC w)
end T

set_option maxHeartbeats 4000000
namespace T
open PySem PySem.Spec PyProof.Rows L2 Z
/-! the readings' steps, as one word: walk_at "z" (one step), "zz" (as far as it goes), "up" (a fact carried here) -/
local macro_rules | `(tactic| walk_at "up") => `(tactic| first
  | assumption
  | (refine' IsR.mono (by assumption) ?zup; case zup => walk_at "up")
  | (refine' IsE.mono (by assumption) ?zup; case zup => walk_at "up")
  | (refine' Same.at (by assumption) ?zup; case zup => walk_at "up")
  | (refine' SqL.of ?zup; case zup => walk_at "up")
  | (refine' L2.Same.seq (by assumption) ?zup; case zup => walk_at "up"))
local macro_rules | `(tactic| walk_at "z") => `(tactic| first
  | ((with_reducible refine' z_var ?zvh ?_); (case zvh => exact rfl))
  | with_reducible refine z_c ?_
  | with_reducible refine z_cons ?_
  | with_reducible refine z_nil ?_
  | with_reducible refine z_op ?_
  | with_reducible refine z_nx ?_
  | with_reducible refine z_seq ?_
  | with_reducible refine z_asg ?_
  | with_reducible refine z_asgG ?_
  | with_reducible refine z_call ?_
  | with_reducible refine z_sq0 ?_
  | with_reducible refine z_sq1 ?_
  | with_reducible refine z_ifS ?_
  | with_reducible refine z_test ?_
  | with_reducible refine z_tb ?_
  | with_reducible refine z_bl ?_
  | with_reducible refine z_blI ?_
  | with_reducible refine z_ret ?_
  | with_reducible refine z_rt ?_
  | with_reducible refine z_T ?_
  | with_reducible refine z_F ?_
  | with_reducible refine z_add ?_
  | with_reducible refine z_sub ?_
  | with_reducible refine z_neg ?_
  | with_reducible refine z_un ?_
  | with_reducible refine z_eqI ?_
  | with_reducible refine z_neI ?_
  | with_reducible refine z_lt ?_
  | with_reducible refine z_le ?_
  | with_reducible refine z_gt ?_
  | with_reducible refine z_ge ?_
  | with_reducible refine z_not ?_
  | with_reducible refine z_and ?_
  | with_reducible refine z_or ?_
  | with_reducible refine z_andV ?_
  | with_reducible refine z_orV ?_
  | with_reducible refine z_notV ?_
  | with_reducible refine z_if ?_
  | with_reducible refine z_cb ?_
  | with_reducible refine z_int1 ?_
  | with_reducible refine z_intb ?_
  | with_reducible refine z_abs ?_
  | with_reducible refine z_gcd ?_
  | with_reducible refine z_isi_ii ?_
  | with_reducible refine z_isi_ib ?_
  | with_reducible refine z_next ?_
  | with_reducible refine z_drop ?_
  | with_reducible refine z_par ?_
  | with_reducible refine z_par2 ?_
  | with_reducible refine z_tupN ?_
  | with_reducible refine z_lstN ?_
  | ((with_reducible refine' z_nt ?zl1 ?_); (case zl1 => exact Nat.le_of_ble_eq_true rfl); intro p H' hp hs he)
  | ((with_reducible refine' z_gtup ?zl1 ?zl2 ?_); (case zl1 => walk_at "up"); (case zl2 => exact rfl))
  | with_reducible refine z_bk ?_
  | with_reducible refine z_ct ?_
  | with_reducible refine z_break ?_
  | with_reducible refine z_cont ?_
  | with_reducible refine z_retN ?_
  | with_reducible refine z_nn ?_
  | with_reducible refine z_mk ?_
  | with_reducible refine z_gn ?_
  | with_reducible refine z_gcons ?_
  | with_reducible refine z_gnil ?_
  | with_reducible refine z_mt ?_
  | with_reducible refine z_mko ?_
  | with_reducible refine z_for2 ?_
  | with_reducible refine z_ownI ?_
  | ((with_reducible refine' z_lenL ?zl1 ?_); (case zl1 => walk_at "up"))
  | ((with_reducible refine' z_ixT ?zl1 ?zl2 ?_); (case zl1 => walk_at "up"); (case zl2 => exact rfl))
  | ((with_reducible refine' z_mulL ?zl1 ?zl2 ?_); (case zl1 => omega); (case zl2 => omega))
  | ((with_reducible refine' z_mulR ?zl1 ?zl2 ?_); (case zl1 => omega); (case zl2 => omega))
  | ((with_reducible refine' z_divS ?zl1 ?zl2 ?_); (case zl1 => omega); (case zl2 => omega))
  | ((with_reducible refine' z_mulW ?zl1 ?zl2 ?zl3 ?zl4 ?_); (case zl1 => omega); (case zl2 => omega); (case zl3 => omega); (case zl4 => omega))
  | ((with_reducible refine' z_divW ?zl1 ?zl2 ?_); (case zl1 => omega); (case zl2 => omega)))
local macro_rules | `(tactic| walk_at "zz") => `(tactic| repeat (walk_at "z"))
local macro_rules | `(tactic| walk_at "z") => `(tactic| ((with_reducible refine' z_fldt ?zc1 ?zc2 ?zl1 ?zl2 ?_); (case zc1 => exact Lw.cl_Ratio (by assumption)); (case zc2 => exact Lw.na_Ratio_top (by assumption)); (case zl1 => exact rfl); (case zl2 => walk_at "up")))
local macro_rules | `(tactic| walk_at "z") => `(tactic| ((with_reducible refine' z_fldb ?zc1 ?zc2 ?zl1 ?zl2 ?_); (case zc1 => exact Lw.cl_Ratio (by assumption)); (case zc2 => exact Lw.na_Ratio_bottom (by assumption)); (case zl1 => exact rfl); (case zl2 => walk_at "up")))
section
variable {P : Program} {w : World} {K : Frag} {mg : Str → Option Value} {base : Heap}
theorem ok_RatioD_initD (L : Lw K mg) {fd : FuncData} (F : FunD K "__init__" "Ratio.__init__" (defArgs s_RatioD_initD) (defBody s_RatioD_initD) (defScope s_RatioD_initD) (df_RatioD_initD.dvs K) (df_RatioD_initD.kws K) (He.fAd K ("Ratio", some "__init__")) fd) : FnOk P w K mg base (L2N.CX P w) 1 (He.fAd K ("Ratio", some "__init__")) fd (["self", "top", "bottom"] : List Str) (sp3 (fs_rinit K)) := by
  refine FunD.ok F sc_RatioD_initD len3 (fun cdv A outer s H vs Q E hr h => ?_)
  obtain ⟨a, b, c, rfl, h⟩ := h
  refine ⟨_, (pss_cons (ps_if (pt_cmpR op_eq (pv 2) pe_int (nomark _)) (pss_one (L2N.ps_raise rfl (L2N.takes_of rfl rfl rfl rfl) (pmk_x0 PySem.F.excBase_ValueError L.xi_ZeroBottom L.g_ZeroBottom L.kp_ZeroBottom (raises_own L.xb_ZeroBottom L.xt_ZeroBottom)))) pss_nil)
    (pss_cons (ps_set (i := 3) sc_RatioD_initD.nd rfl (by first | exact Or.inl rfl | exact Or.inr rfl) (pe_callBfun cr_gcd rfl L.v_gcd (pa_cons (pv 1) (pa_cons (pv 2) pa_nil))))
    (pss_cons (ps_if (pt_cmpR o_lt (pv 2) pe_int (nomark _)) (pss_one (ps_set (i := 3) sc_RatioD_initD.nd rfl (by first | exact Or.inl rfl | exact Or.inr rfl) (pe_un o_neg (pv 3)))) pss_nil)
    (pss_cons (ps_fld (pv 0) (pe_op o_div (pv 1) (pv 3)) rfl)
    (pss_one (ps_fld (pv 0) (pe_op o_div (pv 2) (pv 3)) rfl)))))), ?_⟩
  obtain ⟨x, dx, H0, n, d, rfl, rfl, rfl, rfl, hx, hdx, ne, hb, k, kz⟩ := h
  walk_at "zz"
  have sm : Same H0 (upd (upd H0 dx (.own x)) x (.ins (He.ga K "Ratio") dx [])) := fun y o hy => by
    rw [upd_ne (ne_of_none hy hx), upd_ne (ne_of_none hy hdx)]
    exact hy
  refine z_d2 (fun c => kz c _ sm) (fun c => ?_)
  have hc := rc_bits (n := n) c hb
  have hc0 := rc_ne (n := n) c
  walk_at "zz"
  refine z_d2 (fun c2 => ?_) (fun c2 => ?_)
  · walk_at "zz"
    have e : rc n d = -((Int.gcd n d : Nat) : Int) := by unfold rc; rw [if_pos c2]
    rw [e] at hc hc0
    refine run_rinit (a := .int (rt n d)) (b := .int (rb n d)) L.cl_Ratio L.na_Ratio_top L.na_Ratio_bottom hx hdx ne rfl (fun H1 Q1 q1 => ?_) (fun H1 Q1 q1 => ?_) (fun H' e1 e2 => k c H' e1 ⟨dx, e2⟩)
    · walk_at "zz"
      refine z_divN hc0 hc (by decide) (by decide) ?_
      unfold rt at q1
      rw [e] at q1
      exact q1
    · walk_at "zz"
      refine z_divN hc0 hc (by decide) (by decide) ?_
      unfold rb at q1
      rw [e] at q1
      exact q1
  · walk_at "zz"
    have e : rc n d = ((Int.gcd n d : Nat) : Int) := by unfold rc; rw [if_neg c2]
    rw [e] at hc hc0
    refine run_rinit (a := .int (rt n d)) (b := .int (rb n d)) L.cl_Ratio L.na_Ratio_top L.na_Ratio_bottom hx hdx ne rfl (fun H1 Q1 q1 => ?_) (fun H1 Q1 q1 => ?_) (fun H' e1 e2 => k c H' e1 ⟨dx, e2⟩)
    · walk_at "zz"
      refine z_divN hc0 hc (by decide) (by decide) ?_
      unfold rt at q1
      rw [e] at q1
      exact q1
    · walk_at "zz"
      refine z_divN hc0 hc (by decide) (by decide) ?_
      unfold rb at q1
      rw [e] at q1
      exact q1
theorem c_RatioD_initD (L : Lw K mg) : Mak P w K mg base 1 "Ratio" (He.ga K "Ratio") (sp3 (fs_rinit K)) [] := by
  obtain ⟨fd, F⟩ := L.d_RatioD_initD
  obtain ⟨ds, vds, bds⟩ := F.binds1 (ps := ["self", "top", "bottom"]) 3 1 (by intro z; cases z) rfl (fun _ _ _ _ _ _ _ us its hl hi => match us, its, hl, hi with | [_, _, _], [_], _, _ => ⟨_, rfl, rfl⟩)
  exact ⟨⟨_, fd, ["self", "top", "bottom"], ds, L.mk_Ratio, ok_RatioD_initD L F, L.g_Ratio, bds, vds⟩⟩
theorem c1_RatioD_initD (L : Lw K mg) : Mak P w K mg base 1 "Ratio" (He.ga K "Ratio") (sp3 (fs_rinit K)) [V.int 1] := by
  obtain ⟨fd, F⟩ := L.d_RatioD_initD
  obtain ⟨ds, vds, bds⟩ := F.binds1 (ps := ["self", "top", "bottom"]) 2 0 (by intro z; cases z) rfl (fun _ _ _ _ _ _ _ us its hl hi => match us, its, hl, hi with | [_, _], [_], _, _ => ⟨_, rfl, rfl⟩)
  exact ⟨⟨_, fd, ["self", "top", "bottom"], ds, L.mk_Ratio, ok_RatioD_initD L F, L.g_Ratio, bds, vds⟩⟩
end
end T

set_option maxHeartbeats 4000000
namespace T
open PySem PySem.Spec PyProof.Rows L2 Z
/-! the readings' steps, as one word: walk_at "z" (one step), "zz" (as far as it goes), "up" (a fact carried here) -/
local macro_rules | `(tactic| walk_at "up") => `(tactic| first
  | assumption
  | (refine' IsR.mono (by assumption) ?zup; case zup => walk_at "up")
  | (refine' IsE.mono (by assumption) ?zup; case zup => walk_at "up")
  | (refine' Same.at (by assumption) ?zup; case zup => walk_at "up")
  | (refine' SqL.of ?zup; case zup => walk_at "up")
  | (refine' L2.Same.seq (by assumption) ?zup; case zup => walk_at "up"))
local macro_rules | `(tactic| walk_at "z") => `(tactic| first
  | ((with_reducible refine' z_var ?zvh ?_); (case zvh => exact rfl))
  | with_reducible refine z_c ?_
  | with_reducible refine z_cons ?_
  | with_reducible refine z_nil ?_
  | with_reducible refine z_op ?_
  | with_reducible refine z_nx ?_
  | with_reducible refine z_seq ?_
  | with_reducible refine z_asg ?_
  | with_reducible refine z_asgG ?_
  | with_reducible refine z_call ?_
  | with_reducible refine z_sq0 ?_
  | with_reducible refine z_sq1 ?_
  | with_reducible refine z_ifS ?_
  | with_reducible refine z_test ?_
  | with_reducible refine z_tb ?_
  | with_reducible refine z_bl ?_
  | with_reducible refine z_blI ?_
  | with_reducible refine z_ret ?_
  | with_reducible refine z_rt ?_
  | with_reducible refine z_T ?_
  | with_reducible refine z_F ?_
  | with_reducible refine z_add ?_
  | with_reducible refine z_sub ?_
  | with_reducible refine z_neg ?_
  | with_reducible refine z_un ?_
  | with_reducible refine z_eqI ?_
  | with_reducible refine z_neI ?_
  | with_reducible refine z_lt ?_
  | with_reducible refine z_le ?_
  | with_reducible refine z_gt ?_
  | with_reducible refine z_ge ?_
  | with_reducible refine z_not ?_
  | with_reducible refine z_and ?_
  | with_reducible refine z_or ?_
  | with_reducible refine z_andV ?_
  | with_reducible refine z_orV ?_
  | with_reducible refine z_notV ?_
  | with_reducible refine z_if ?_
  | with_reducible refine z_cb ?_
  | with_reducible refine z_int1 ?_
  | with_reducible refine z_intb ?_
  | with_reducible refine z_abs ?_
  | with_reducible refine z_gcd ?_
  | with_reducible refine z_isi_ii ?_
  | with_reducible refine z_isi_ib ?_
  | with_reducible refine z_next ?_
  | with_reducible refine z_drop ?_
  | with_reducible refine z_par ?_
  | with_reducible refine z_par2 ?_
  | with_reducible refine z_tupN ?_
  | with_reducible refine z_lstN ?_
  | ((with_reducible refine' z_nt ?zl1 ?_); (case zl1 => exact Nat.le_of_ble_eq_true rfl); intro p H' hp hs he)
  | ((with_reducible refine' z_gtup ?zl1 ?zl2 ?_); (case zl1 => walk_at "up"); (case zl2 => exact rfl))
  | with_reducible refine z_bk ?_
  | with_reducible refine z_ct ?_
  | with_reducible refine z_break ?_
  | with_reducible refine z_cont ?_
  | with_reducible refine z_retN ?_
  | with_reducible refine z_nn ?_
  | with_reducible refine z_mk ?_
  | with_reducible refine z_gn ?_
  | with_reducible refine z_gcons ?_
  | with_reducible refine z_gnil ?_
  | with_reducible refine z_mt ?_
  | with_reducible refine z_mko ?_
  | with_reducible refine z_for2 ?_
  | with_reducible refine z_ownI ?_
  | ((with_reducible refine' z_lenL ?zl1 ?_); (case zl1 => walk_at "up"))
  | ((with_reducible refine' z_ixT ?zl1 ?zl2 ?_); (case zl1 => walk_at "up"); (case zl2 => exact rfl))
  | ((with_reducible refine' z_mulL ?zl1 ?zl2 ?_); (case zl1 => omega); (case zl2 => omega))
  | ((with_reducible refine' z_mulR ?zl1 ?zl2 ?_); (case zl1 => omega); (case zl2 => omega))
  | ((with_reducible refine' z_divS ?zl1 ?zl2 ?_); (case zl1 => omega); (case zl2 => omega))
  | ((with_reducible refine' z_mulW ?zl1 ?zl2 ?zl3 ?zl4 ?_); (case zl1 => omega); (case zl2 => omega); (case zl3 => omega); (case zl4 => omega))
  | ((with_reducible refine' z_divW ?zl1 ?zl2 ?_); (case zl1 => omega); (case zl2 => omega)))
local macro_rules | `(tactic| walk_at "zz") => `(tactic| repeat (walk_at "z"))
local macro_rules | `(tactic| walk_at "z") => `(tactic| with_reducible refine z_lstN ?_)
local macro_rules | `(tactic| walk_at "z") => `(tactic| with_reducible refine z_p6 ?_)
local macro_rules | `(tactic| walk_at "z") => `(tactic| with_reducible refine z_p12 ?_)
local macro_rules | `(tactic| walk_at "z") => `(tactic| with_reducible refine z_p13 ?_)
local macro_rules | `(tactic| walk_at "z") => `(tactic| with_reducible refine z_calln ?_)
local macro_rules | `(tactic| walk_at "z") => `(tactic| with_reducible refine z_xfS ?_)
local macro_rules | `(tactic| walk_at "z") => `(tactic| with_reducible refine z_lcS ?_)
local macro_rules | `(tactic| walk_at "z") => `(tactic| with_reducible refine z_lcRS ?_)
local macro_rules | `(tactic| walk_at "z") => `(tactic| with_reducible refine z_lcZS ?_)
local macro_rules | `(tactic| walk_at "z") => `(tactic| with_reducible refine z_foS ?_)
local macro_rules | `(tactic| walk_at "z") => `(tactic| with_reducible refine z_for1 ?_)
local macro_rules | `(tactic| walk_at "z") => `(tactic| with_reducible refine z_tsl ?_)
local macro_rules | `(tactic| walk_at "z") => `(tactic| with_reducible refine z_np ?_)
local macro_rules | `(tactic| walk_at "z") => `(tactic| with_reducible refine z_pt ?_)
local macro_rules | `(tactic| walk_at "z") => `(tactic| with_reducible refine z_pti ?_)
local macro_rules | `(tactic| walk_at "z") => `(tactic| with_reducible refine z_catI ?_)
local macro_rules | `(tactic| walk_at "z") => `(tactic| with_reducible refine z_isNI ?_)
local macro_rules | `(tactic| walk_at "z") => `(tactic| with_reducible refine z_isNN ?_)
local macro_rules | `(tactic| walk_at "z") => `(tactic| with_reducible refine z_notNI ?_)
local macro_rules | `(tactic| walk_at "z") => `(tactic| with_reducible refine z_notNN ?_)
local macro_rules | `(tactic| walk_at "z") => `(tactic| with_reducible refine z_gsub ?_)
local macro_rules | `(tactic| walk_at "z") => `(tactic| with_reducible refine z_isNb ?_)
local macro_rules | `(tactic| walk_at "z") => `(tactic| with_reducible refine z_notNb ?_)
local macro_rules | `(tactic| walk_at "z") => `(tactic| ((with_reducible refine' z_nlR ?zl1 ?_); (case zl1 => exact Nat.le_of_ble_eq_true rfl); intro p H' hp hs he))
local macro_rules | `(tactic| walk_at "z") => `(tactic| ((with_reducible refine' z_repR ?zl1 ?zl2 ?_); (case zl1 => omega); (case zl2 => omega)))
local macro_rules | `(tactic| walk_at "z") => `(tactic| ((with_reducible refine' z_repL ?zl1 ?zl2 ?_); (case zl1 => omega); (case zl2 => omega)))
local macro_rules | `(tactic| walk_at "z") => `(tactic| ((with_reducible refine' z_lenLst ?zl1 ?_); (case zl1 => walk_at "up")))
local macro_rules | `(tactic| walk_at "z") => `(tactic| ((with_reducible refine' z_cat ?zl1 ?zl2 ?zl3 ?_); (case zl1 => walk_at "up"); (case zl2 => walk_at "up"); (case zl3 => (simp only [List.length_map, List.length_cons, List.length_nil, List.length_append, List.length_replicate]; omega)); intro p H' hp hs he))
local macro_rules | `(tactic| walk_at "z") => `(tactic| with_reducible refine z_sfl ?_)
local macro_rules | `(tactic| walk_at "z") => `(tactic| with_reducible refine z_lcES ?_)
local macro_rules | `(tactic| walk_at "z") => `(tactic| with_reducible refine z_lcMS ?_)
local macro_rules | `(tactic| walk_at "z") => `(tactic| with_reducible refine z_foES ?_)
local macro_rules | `(tactic| walk_at "z") => `(tactic| with_reducible refine z_fo3S ?_)
local macro_rules | `(tactic| walk_at "z") => `(tactic| with_reducible refine z_sta ?_)
local macro_rules | `(tactic| walk_at "z") => `(tactic| with_reducible refine z_sta1 ?_)
local macro_rules | `(tactic| walk_at "z") => `(tactic| ((with_reducible refine' z_fldt ?zc1 ?zc2 ?zl1 ?zl2 ?_); (case zc1 => exact Lw.cl_Ratio (by assumption)); (case zc2 => exact Lw.na_Ratio_top (by assumption)); (case zl1 => exact rfl); (case zl2 => walk_at "up")))
local macro_rules | `(tactic| walk_at "z") => `(tactic| ((with_reducible refine' z_fldb ?zc1 ?zc2 ?zl1 ?zl2 ?_); (case zc1 => exact Lw.cl_Ratio (by assumption)); (case zc2 => exact Lw.na_Ratio_bottom (by assumption)); (case zl1 => exact rfl); (case zl2 => walk_at "up")))
theorem same30b {H H1 H2 : Hp} (h : Same H1 H2) (e : Same H H1) : Same H H2 := e.trans h
local macro_rules | `(tactic| walk_at "sm") => `(tactic| first
  | assumption
  | exact fun _ _ h => h
  | (refine' same30b (by assumption) ?zsm; case zsm => walk_at "sm"))
local macro_rules | `(tactic| walk_at "up") => `(tactic| first
  | assumption
  | (with_reducible refine' IsR.mono (by assumption) ?zup; case zup => walk_at "up")
  | (with_reducible refine' Same.at (by assumption) ?zup; case zup => walk_at "up")
  | fail)

open S31 (cf)
open S30
theorem rt_bits {n d : Int} {b : Nat} (hd : 0 < d) (h : Bits b n) : Bits b (rt n d) := by
  rw [(rt_pos hd).1]
  exact h.div
theorem rb_bits {n d : Int} {b : Nat} (hd : 0 < d) (h : Bits b d) : Bits b (rb n d) := by
  rw [(rt_pos hd).2]
  exact h.div
theorem rt_val {n d : Int} {v : Rat} (hd : 0 < d) (h : (n : Rat) = v * d) : (rt n d : Rat) = v * (rb n d : Rat) := by
  obtain ⟨_, _, e⟩ := rt_spec (n := n) hd
  have e2 : (rt n d : Rat) * d = n * (rb n d : Rat) := by rw [← Rat.intCast_mul, ← Rat.intCast_mul, e]
  have := ne_cast (show d ≠ 0 by omega)
  rw [h] at e2
  grind
/-- a Ratio with the value v -/
def IsV (K : Frag) (H : Hp) (p : Addr) (v : Rat) (B : Nat) : Prop := ∃ t b : Int, IsR K H p t b ∧ 0 < b ∧ Bits B t ∧ Bits B b ∧ (t : Rat) = v * (b : Rat)
theorem IsR.monoN {K : Frag} {H H' : Hp} {a : Addr} {t b : Int} (s : SameN H H') (h : IsR K H a t b) : IsR K H' a t b := h.elim fun dx q => ⟨dx, s _ _ q (fun _ z => nomatch z)⟩
theorem IsV.monoN {K : Frag} {H H' : Hp} {p : Addr} {v : Rat} {B : Nat} (s : SameN H H') (h : IsV K H p v B) : IsV K H' p v B := by
  obtain ⟨t, b, h1, h⟩ := h
  exact ⟨t, b, IsR.monoN s h1, h⟩
theorem IsV.mono {K : Frag} {H H' : Hp} {p : Addr} {v : Rat} {B : Nat} (s : Same H H') (h : IsV K H p v B) : IsV K H' p v B := h.monoN (SameN.of s)
theorem u_mkV {K : Frag} {H : Hp} {Q : VK} {E : XK} {n d : Int} {v : Rat} {B : Nat} (hd : 0 < d) (h9 : Bits 8999 d) (h1 : Bits B n) (h2 : Bits B d) (e : (n : Rat) = v * d) (k : ∀ p H', Same H H' → IsV K H' p v B → Q (.ref p) H') :
    zMk (He.ga K "Ratio") (sp3 (fs_rinit K)) [] E [.int n, .int d] H Q :=
  z_mkR (by omega) h9 fun p H' s h => k p H' s ⟨_, _, h, (rt_spec hd).1, rt_bits hd h1, rb_bits hd h2, rt_val hd e⟩
/-- lists of Ratios, of pairs -/
def itR (K : Frag) (v : Sq) (B : Nat) : Hp → V → Nat → Prop := fun H x k => ∃ a, x = .ref a ∧ IsV K H a (v k) B
def itP (v : Sq) (B : Nat) : Hp → V → Nat → Prop := fun H x k => ∃ (a : Addr) (t b : Int), x = .ref a ∧ H a = some (.tup [.int t, .int b]) ∧ 0 < b ∧ Bits B t ∧ Bits B b ∧ (t : Rat) = v k * (b : Rat)
theorem itR_mono {K : Frag} {v : Sq} {B : Nat} : Mono (itR K v B) := fun H H' x k s h => by
  obtain ⟨a, e, h⟩ := h
  exact ⟨a, e, h.monoN s⟩
theorem itP_mono {v : Sq} {B : Nat} : Mono (itP v B) := fun H H' x k s h => by
  obtain ⟨a, t, b, e, h, r⟩ := h
  exact ⟨a, t, b, e, s _ _ h (fun _ z => nomatch z), r⟩
def RL (K : Frag) (H : Hp) (l : Addr) (n : Nat) (v : Sq) (B : Nat) : Prop := Ls H l n (itR K v B)
def PL (H : Hp) (l : Addr) (n : Nat) (v : Sq) (B : Nat) : Prop := Ls H l n (itP v B)
theorem RL.mono {K : Frag} {H H' : Hp} {l : Addr} {n : Nat} {v : Sq} {B : Nat} (s : Same H H') (h : RL K H l n v B) : RL K H' l n v B := Ls.mono itR_mono s h
theorem PL.mono {H H' : Hp} {l : Addr} {n : Nat} {v : Sq} {B : Nat} (s : Same H H') (h : PL H l n v B) : PL H' l n v B := Ls.mono itP_mono s h
/-- a Poly of the numbers ls over o -/
def IsQ (K : Frag) (H : Hp) (p : Addr) (ls : List Int) (o : Int) : Prop := ∃ (dx t : Addr), H p = some (.ins (He.ga K "Poly") dx [("numbers", .ref t), ("over", .int o), ("degree", .int ((ls.length : Int) - 1))]) ∧ H t = some (.tup (ls.map V.int))
theorem IsQ.mono {K : Frag} {H H' : Hp} {p : Addr} {ls : List Int} {o : Int} (s : Same H H') (h : IsQ K H p ls o) : IsQ K H' p ls o := by
  obtain ⟨dx, t, h1, h2⟩ := h
  exact ⟨dx, t, s _ _ h1, s _ _ h2⟩
def fs_cn (K : Frag) : F3 := fun a b c H Q E => ∃ v l : Int, a = .int v ∧ b = .int l ∧ (c = .non ∨ ∃ h, c = .int h) ∧
  ((l ≤ v ∧ ∀ h, c = .int h → v ≤ h) → Q .non H) ∧ (¬ (l ≤ v ∧ ∀ h, c = .int h → v ≤ h) → ∀ d H', Same H H' → H' d = some (.xd [("value", .int v)]) → E (.ref (He.ga K "OutOfBounds")) (some d) H')
def fs_cs (K : Frag) : F3 := fun a b c H Q E => ∃ (p : Addr) (xs : List V) (l h : Int), a = .ref p ∧ b = .int l ∧ c = .int h ∧ H p = some (.lst xs) ∧
  ((l ≤ xs.length ∧ (xs.length : Int) ≤ h) → Q .non H) ∧ (¬ (l ≤ xs.length ∧ (xs.length : Int) ≤ h) → ∀ d H', Same H H' → H' d = some (.xd [("size", .int (xs.length : Int))]) → E (.ref (He.ga K "BadSize")) (some d) H')
section
variable {P : Program} {w : World} {K : Frag} {mg : Str → Option Value} {base : Heap}
theorem ok_OutOfBoundsD_initD (L : Lw K mg) {fd : FuncData} (F : FunD K "__init__" "OutOfBounds.__init__" (defArgs s_OutOfBoundsD_initD) (defBody s_OutOfBoundsD_initD) (defScope s_OutOfBoundsD_initD) (df_OutOfBoundsD_initD.dvs K) (df_OutOfBoundsD_initD.kws K) (He.fAd K ("OutOfBounds", some "__init__")) fd) : FnOk P w K mg base (L2N.CX P w) 1 (He.fAd K ("OutOfBounds", some "__init__")) fd (["self", "value"] : List Str) (sp2 (fs_ex1 K "OutOfBounds" "value")) := by
  refine FunD.ok F sc_OutOfBoundsD_initD len2 (fun cdv A outer s H vs Q E hr h => ?_)
  obtain ⟨a, b, rfl, h⟩ := h
  refine ⟨_, (pss_one (ps_ost (pv 0) (pv 1))), ?_⟩
  obtain ⟨e, H0, rfl, rfl, h0, k⟩ := h
  exact run_ex1 (L.ox_OutOfBounds).1 L.na_OutOfBounds_value h0 rfl rfl k
theorem c_OutOfBoundsD_initD (L : Lw K mg) : MakX P w K mg base 1 "OutOfBounds" (He.ga K "OutOfBounds") (sp2 (fs_ex1 K "OutOfBounds" "value")) := by
  obtain ⟨fd, F⟩ := L.d_OutOfBoundsD_initD
  exact ⟨⟨_, fd, ["self", "value"], (L.ox_OutOfBounds).1, (L.ox_OutOfBounds).2.1, (L.ox_OutOfBounds).2.2, ok_OutOfBoundsD_initD L F, L.g_OutOfBounds, F.bindsN (fun _ _ _ _ _ _ us hl => match us, hl with | [_, _], _ => rfl)⟩⟩
theorem ok_BadSizeD_initD (L : Lw K mg) {fd : FuncData} (F : FunD K "__init__" "BadSize.__init__" (defArgs s_BadSizeD_initD) (defBody s_BadSizeD_initD) (defScope s_BadSizeD_initD) (df_BadSizeD_initD.dvs K) (df_BadSizeD_initD.kws K) (He.fAd K ("BadSize", some "__init__")) fd) : FnOk P w K mg base (L2N.CX P w) 1 (He.fAd K ("BadSize", some "__init__")) fd (["self", "size"] : List Str) (sp2 (fs_ex1 K "BadSize" "size")) := by
  refine FunD.ok F sc_BadSizeD_initD len2 (fun cdv A outer s H vs Q E hr h => ?_)
  obtain ⟨a, b, rfl, h⟩ := h
  refine ⟨_, (pss_one (ps_ost (pv 0) (pv 1))), ?_⟩
  obtain ⟨e, H0, rfl, rfl, h0, k⟩ := h
  exact run_ex1 (L.ox_BadSize).1 L.na_BadSize_size h0 rfl rfl k
theorem c_BadSizeD_initD (L : Lw K mg) : MakX P w K mg base 1 "BadSize" (He.ga K "BadSize") (sp2 (fs_ex1 K "BadSize" "size")) := by
  obtain ⟨fd, F⟩ := L.d_BadSizeD_initD
  exact ⟨⟨_, fd, ["self", "size"], (L.ox_BadSize).1, (L.ox_BadSize).2.1, (L.ox_BadSize).2.2, ok_BadSizeD_initD L F, L.g_BadSize, F.bindsN (fun _ _ _ _ _ _ us hl => match us, hl with | [_, _], _ => rfl)⟩⟩
theorem ok_CrossedD_initD (L : Lw K mg) {fd : FuncData} (F : FunD K "__init__" "Crossed.__init__" (defArgs s_CrossedD_initD) (defBody s_CrossedD_initD) (defScope s_CrossedD_initD) (df_CrossedD_initD.dvs K) (df_CrossedD_initD.kws K) (He.fAd K ("Crossed", some "__init__")) fd) : FnOk P w K mg base (L2N.CX P w) 1 (He.fAd K ("Crossed", some "__init__")) fd (["self", "low", "high"] : List Str) (sp3 (fs_ex2 K "Crossed" "low" "high")) := by
  refine FunD.ok F sc_CrossedD_initD len3 (fun cdv A outer s H vs Q E hr h => ?_)
  obtain ⟨a, b, c, rfl, h⟩ := h
  refine ⟨_, (pss_cons (ps_ost (pv 0) (pv 1))
    (pss_one (ps_ost (pv 0) (pv 2)))), ?_⟩
  obtain ⟨e, H0, rfl, rfl, h0, k⟩ := h
  exact run_ex2 (L.ox_Crossed).1 L.na_Crossed_low L.na_Crossed_high h0 rfl rfl rfl k
theorem c_CrossedD_initD (L : Lw K mg) : MakX P w K mg base 1 "Crossed" (He.ga K "Crossed") (sp3 (fs_ex2 K "Crossed" "low" "high")) := by
  obtain ⟨fd, F⟩ := L.d_CrossedD_initD
  exact ⟨⟨_, fd, ["self", "low", "high"], (L.ox_Crossed).1, (L.ox_Crossed).2.1, (L.ox_Crossed).2.2, ok_CrossedD_initD L F, L.g_Crossed, F.bindsN (fun _ _ _ _ _ _ us hl => match us, hl with | [_, _, _], _ => rfl)⟩⟩
theorem ok_check_number (L : Lw K mg) {fd : FuncData} (F : FunD K "check_number" "check_number" (defArgs s_check_number) (defBody s_check_number) (defScope s_check_number) (df_check_number.dvs K) (df_check_number.kws K) (He.fAd K ("check_number", none)) fd) : FnOk P w K mg base (L2N.CX P w) 3 (He.fAd K ("check_number", none)) fd (["value", "low", "high"] : List Str) (sp3 (fs_cn K)) := by
  refine FunD.ok F sc_check_number len3 (fun cdv A outer s H vs Q E hr h => ?_)
  obtain ⟨a, b, c, rfl, h⟩ := h
  refine ⟨_, (pss_one (ps_if (PW.pt (pw_or (pt_cmpR o_lt (pv 0) (pv 1) (nomark _)) (pw_or1 (PW.pt (pw_and (pt_cmpR o_notN (pv 2) pe_non (nomark _)) (pw_and1 (pt_cmpR o_gt (pv 0) (pv 2) (nomark _)))))))) (pss_one (L2N.ps_raise rfl (L2N.takes_of rfl rfl rfl rfl) (pmk_x (c_OutOfBoundsD_initD (K := K) L) hr (by decide) passF (pa_cons (pv 0) pa_nil)))) pss_nil)), ?_⟩
  obtain ⟨v, l, rfl, rfl, hc, k, kx⟩ := h
  walk_at "zz"
  refine z_d2 (fun c => ?_) (fun c => ?_)
  · walk_at "zz"
    exact z_exo1 (kx (by omega))
  · rcases hc with rfl | ⟨h, rfl⟩
    · walk_at "zz"
      exact k ⟨by omega, fun h e => by cases e⟩
    · walk_at "zz"
      refine z_d2 (fun c2 => ?_) (fun c2 => ?_)
      · walk_at "zz"
        exact z_exo1 (kx (fun z => absurd (z.2 h rfl) (by omega)))
      · walk_at "zz"
        exact k ⟨by omega, fun h' e => by cases e; omega⟩
theorem c_check_number (L : Lw K mg) : Cal P w K mg base 3 "check_number" (sp3 (fs_cn K)) [] := by
  obtain ⟨fd, F⟩ := L.d_check_number
  obtain ⟨ds, vds, bds⟩ := F.binds1 (ps := ["value", "low", "high"]) 3 1 (by intro z; cases z) rfl (fun _ _ _ _ _ _ _ us its hl hi => match us, its, hl, hi with | [_, _, _], [_], _, _ => ⟨_, rfl, rfl⟩)
  exact ⟨⟨_, fd, ["value", "low", "high"], ds, ok_check_number L F, L.g_check_number, F.kp, bds, vds⟩⟩
theorem c1_check_number (L : Lw K mg) : Cal P w K mg base 3 "check_number" (sp3 (fs_cn K)) [V.non] := by
  obtain ⟨fd, F⟩ := L.d_check_number
  obtain ⟨ds, vds, bds⟩ := F.binds1 (ps := ["value", "low", "high"]) 2 0 (by intro z; cases z) rfl (fun _ _ _ _ _ _ _ us its hl hi => match us, its, hl, hi with | [_, _], [_], _, _ => ⟨_, rfl, rfl⟩)
  exact ⟨⟨_, fd, ["value", "low", "high"], ds, ok_check_number L F, L.g_check_number, F.kp, bds, vds⟩⟩
theorem ok_check_size (L : Lw K mg) {fd : FuncData} (F : FunD K "check_size" "check_size" (defArgs s_check_size) (defBody s_check_size) (defScope s_check_size) (df_check_size.dvs K) (df_check_size.kws K) (He.fAd K ("check_size", none)) fd) : FnOk P w K mg base (L2N.CX P w) 3 (He.fAd K ("check_size", none)) fd (["things", "low", "high"] : List Str) (sp3 (fs_cs K)) := by
  refine FunD.ok F sc_check_size len3 (fun cdv A outer s H vs Q E hr h => ?_)
  obtain ⟨a, b, c, rfl, h⟩ := h
  refine ⟨_, (pss_cons (ps_set (i := 3) sc_check_size.nd rfl (by first | exact Or.inl rfl | exact Or.inr rfl) (pe_callB (callK rLen1 (K := K) rfl o_len) (by rfl) L.f_len (by decide +kernel) (pa_cons (pv 0) pa_nil)))
    (pss_one (ps_if (PW.pt (pw_or (pt_cmpR o_lt (pv 3) (pv 1) (nomark _)) (pw_or1 (pt_cmpR o_gt (pv 3) (pv 2) (nomark _))))) (pss_one (L2N.ps_raise rfl (L2N.takes_of rfl rfl rfl rfl) (pmk_x (c_BadSizeD_initD (K := K) L) hr (by decide) passF (pa_cons (pv 3) pa_nil)))) pss_nil))), ?_⟩
  obtain ⟨p, xs, l, h, rfl, rfl, rfl, hp, k, kx⟩ := h
  walk_at "zz"
  refine z_d2 (fun c => ?_) (fun c => ?_)
  · walk_at "zz"
    exact z_exo1 (kx (by omega))
  · walk_at "zz"
    refine z_d2 (fun c2 => ?_) (fun c2 => ?_)
    · walk_at "zz"
      exact z_exo1 (kx (by omega))
    · walk_at "zz"
      exact k (by omega)
theorem c_check_size (L : Lw K mg) : Cal P w K mg base 3 "check_size" (sp3 (fs_cs K)) [] := by
  obtain ⟨fd, F⟩ := L.d_check_size
  exact ⟨⟨_, fd, ["things", "low", "high"], [], ok_check_size L F, L.g_check_size, F.kp, F.bindsN (fun _ _ _ _ _ _ us hl => match us, hl with | [_, _, _], _ => rfl), .nil⟩⟩
end
def fs_low : F2 := fun a b H Q _ => ∃ (p : Addr) (ns : List Int) (o : Int), a = .ref p ∧ b = .int o ∧ H p = some (.lst (ns.map V.int)) ∧ ns.length ≤ 16777216 ∧ 1 ≤ o ∧ Bits 8999 o ∧
  ∀ t q H' ls o', Same H H' → H' t = some (.tup [.ref q, .int o']) → H' q = some (.tup (ls.map V.int)) → LowT ns o ls o' → Q (.ref t) H'
section
variable {P : Program} {w : World} {K : Frag} {mg : Str → Option Value} {base : Heap}
theorem ok_lowest_terms (L : Lw K mg) {fd : FuncData} (F : FunD K "lowest_terms" "lowest_terms" (defArgs s_lowest_terms) (defBody s_lowest_terms) (defScope s_lowest_terms) (df_lowest_terms.dvs K) (df_lowest_terms.kws K) (He.fAd K ("lowest_terms", none)) fd) : FnOk P w K mg base (L2N.CX P w) 1 (He.fAd K ("lowest_terms", none)) fd (["numbers", "over"] : List Str) (sp2 fs_low) := by
  refine FunD.ok F sc_lowest_terms len2 (fun cdv A outer s H vs Q E hr h => ?_)
  obtain ⟨a, b, rfl, h⟩ := h
  refine ⟨_, (pss_cons (ps_set (i := 2) sc_lowest_terms.nd rfl (by first | exact Or.inl rfl | exact Or.inr rfl) (pe_callB (callK rLen1 (K := K) rfl o_len) (by rfl) L.f_len (by decide +kernel) (pa_cons (pv 0) pa_nil)))
    (pss_cons (ps_while (passes_of rfl) (PW.pt (pw_and (pt_cmpR o_gt (pv 2) pe_int (nomark _)) (pw_and1 (pt_cmpR op_eq (pe_ix (ix_seqK (K := K) rfl) (pv 0) (pe_op o_sub (pv 2) pe_int) (fun _ _ => rfl)) pe_int (nomark _))))) (pss_one (ps_set (i := 2) sc_lowest_terms.nd rfl (by first | exact Or.inl rfl | exact Or.inr rfl) (pe_op o_sub (pv 2) pe_int))))
    (pss_cons (ps_if (pt_cmpR op_eq (pv 2) pe_int (nomark _)) (pss_one (ps_ret (pe_tup (pa_cons (pe_tup pa_nil) (pa_cons pe_int pa_nil))))) pss_nil)
    (pss_cons (ps_set (i := 3) sc_lowest_terms.nd rfl (by first | exact Or.inl rfl | exact Or.inr rfl) (pe_callB o_abs (by rfl) L.f_abs (by decide +kernel) (pa_cons (pv 1) pa_nil)))
    (pss_cons (ps_for (passes_of rfl) rfl (pi_listK (K := K) rfl (pe_slice (slK rSlL (K := K) rfl sl_list) (pv 0) po_none (po_some (pv 2)))) (pg_name (i := 4) sc_lowest_terms.nd rfl (by first | exact Or.inl rfl | exact Or.inr rfl)) (pss_one (ps_set (i := 3) sc_lowest_terms.nd rfl (by first | exact Or.inl rfl | exact Or.inr rfl) (pe_callBfun cr_gcd rfl L.v_gcd (pa_cons (pv 3) (pa_cons (pv 4) pa_nil))))))
    (pss_cons (ps_if (pt_cmpR o_lt (pv 1) pe_int (nomark _)) (pss_one (ps_set (i := 3) sc_lowest_terms.nd rfl (by first | exact Or.inl rfl | exact Or.inr rfl) (pe_un o_neg (pv 3)))) pss_nil)
    (pss_one (ps_ret (pe_tup (pa_cons (pe_callTy (callK rTup1 (K := K) rfl call_tuple_of) (by rfl) L.f_tuple (by decide +kernel) (pa_cons (pe_lc (own := [("number", 4)]) (g := (gName 4)) (tt := tYes) rfl sc_lowest_terms.nd (pi_listK (K := K) rfl (pe_slice (slK rSlL (K := K) rfl sl_list) (pv 0) po_none (po_some (pv 2)))) (blkOk_by (N := ["numbers", "over", "size", "common", "number"]) (sc := defScope s_lowest_terms) (by decide +kernel)) (fun _ _ _ _ _ => pg_name (i := 4) sc_lowest_terms.nd rfl (Or.inl rfl)) (fun _ _ _ _ _ => pts_nil) (fun _ _ _ _ _ => (pe_op o_div (pv 4) (pv 3)))) pa_nil)) (pa_cons (pe_op o_div (pv 1) (pv 3)) pa_nil))))))))))), ?_⟩
  obtain ⟨p, ns, o, rfl, rfl, hp, hl, o1, o2, k⟩ := h
  walk_at "zz"
  refine ⟨fun m σ' H' => ∃ s : Nat, σ' = [some (.ref p), some (.int o), some (.int s), none, none] ∧ H' = H ∧ m = s ∧ s ≤ ns.length ∧ ∀ k, s ≤ k → S31.cf ns k = 0, ⟨_, ns.length, ?_, rfl, rfl, Nat.le_refl _, fun k hk => S31.cf_out hk⟩, ?_⟩
  · rw [List.length_map]
    rfl
  rintro m σ' H' ⟨sz, rfl, rfl, em, hs, hz⟩
  walk_at "zz"
  refine z_d2 (fun c => ?_) (fun c => ?_)
  · have hs1 : (((sz : Nat) : Int) - 1).toNat = sz - 1 := by omega
    have hin : sz - 1 < ns.length := by omega
    walk_at "zz"
    refine z_ixL (SqL.of hp) (at_int (v := S31.cf ns (sz - 1)) (by omega) (by rw [hs1, S31.cf_in hin]; exact List.getElem?_eq_getElem hin)) ?_
    walk_at "zz"
    refine z_d2 (fun c2 => ?_) (fun c2 => ?_)
    · refine ⟨_, fun _ _ h => h, ?_⟩
      walk_at "zz"
      refine ⟨sz - 1, by omega, sz - 1, ?_, rfl, rfl, by omega, fun k hk => ?_⟩
      · have e : ((sz : Nat) : Int) - 1 = ((sz - 1 : Nat) : Int) := by omega
        rw [e]
        rfl
      · by_cases e : k = sz - 1
        · rw [e]
          exact c2
        · exact hz k (by omega)
    · obtain ⟨s, rfl⟩ : ∃ s, sz = s + 1 := ⟨sz - 1, by omega⟩
      rw [Nat.add_sub_cancel] at c2
      walk_at "zz"
      refine z_dF (by omega) ?_
      walk_at "zz"
      have ho : ((o.natAbs : Nat) : Int) = o := by omega
      rw [ho]
      refine z_sll hp (fun p2 H2 hp2 s2 e2 => ?_)
      rw [cut_hi, ← List.map_take] at e2
      have lw := lowt_of (show 0 < o by omega) hs hz c2
      have gb := gl_bits (ns := ns.take (s + 1)) (show 0 < o by omega)
      have g0 := S31.gl_pos (c := o) (by omega) (ns.take (s + 1))
      refine z_foV e2 (fun k σ' H' => ∃ x, σ' = [some (.ref p), some (.int o), some (.int ((s + 1 : Nat) : Int)), some (.int (S31.gl o ((ns.take (s + 1)).take k))), x] ∧ H' = H2) ⟨none, by rw [List.take_zero]; rfl, rfl⟩ (fun k σ' H' z => by obtain ⟨x, _, rfl⟩ := z; exact e2) ?_ ?_
      · rintro k x σ' H' hx ⟨y, rfl, rfl⟩
        rw [List.getElem?_map] at hx
        have hk : k < (ns.take (s + 1)).length := by
          by_cases q : k < (ns.take (s + 1)).length
          · exact q
          · rw [List.getElem?_eq_none (by omega)] at hx
            cases hx
        rw [List.getElem?_eq_getElem hk] at hx
        have hx' : V.int (ns.take (s + 1))[k] = x := Option.some.inj hx
        subst hx'
        walk_at "zz"
        refine ⟨some (.int (ns.take (s + 1))[k]), ?_, rfl⟩
        rw [List.take_succ_eq_append_getElem hk, S31.gl_snoc]
        rfl
      · rintro σ' H' ⟨x, rfl, rfl⟩
        have el : (ns.take (s + 1)).take ((ns.take (s + 1)).map V.int).length = ns.take (s + 1) := by
          rw [List.length_map, List.take_length]
        rw [el]
        walk_at "zz"
        refine z_dF (by omega) ?_
        walk_at "zz"
        refine z_sll (s2 _ _ hp) (fun p3 H3 hp3 s3 e3 => ?_)
        rw [cut_hi, ← List.map_take] at e3
        refine z_lcI (fun n => V.int (n / S31.gl o (ns.take (s + 1)))) e3 (by rw [List.length_take]; omega) (fun n H4 N hn s4 c4 => ⟨rfl, ?_⟩) (fun D HD hD sD hl => ?_)
        · walk_at "zz"
          refine z_div g0.1 (Bits.le o2 gb) (by decide) (by decide) ?_
          exact c4 _ (fun _ _ h => h)
        · walk_at "zz"
          refine z_tup1L hl (fun t Ht ht st et => ?_)
          walk_at "zz"
          refine z_div g0.1 (Bits.le o2 gb) (by decide) (by decide) ?_
          walk_at "zz"
          have hm : (ns.take (s + 1)).map (fun n => V.int (n / S31.gl o (ns.take (s + 1)))) = ((ns.take (s + 1)).map fun n => n / S31.gl o (ns.take (s + 1))).map V.int := by rw [List.map_map]; rfl
          rw [hm] at et
          exact k _ _ _ _ _ (by walk_at "sm") (by assumption) (by walk_at "up") lw
  · have s0 : sz = 0 := by omega
    subst s0
    walk_at "zz"
    refine z_dT rfl ?_
    walk_at "zz"
    exact k _ _ _ [] _ (by walk_at "sm") (by assumption) (by walk_at "up") (lowt_nil (by omega) fun k => hz k (Nat.zero_le _))
theorem c_lowest_terms (L : Lw K mg) : Cal P w K mg base 1 "lowest_terms" (sp2 fs_low) [] := by
  obtain ⟨fd, F⟩ := L.d_lowest_terms
  exact ⟨⟨_, fd, ["numbers", "over"], [], ok_lowest_terms L F, L.g_lowest_terms, F.kp, F.bindsN (fun _ _ _ _ _ _ us hl => match us, hl with | [_, _], _ => rfl), .nil⟩⟩
end
def fs_pinit (K : Frag) : F3 := fun a b c H Q _ => ∃ (x dx q : Addr) (H0 : Hp) (ns : List Int) (o : Int), a = .ref x ∧ b = .ref q ∧ c = .int o ∧ H = upd (upd H0 dx (.own x)) x (.ins (He.ga K "Poly") dx []) ∧ H0 x = none ∧ H0 dx = none ∧ dx ≠ x ∧
  H0 q = some (.lst (ns.map V.int)) ∧ ns.length ≤ 200 ∧ 1 ≤ o ∧ Bits 8999 o ∧ ∀ H' ls o', Same H0 H' → IsQ K H' x ls o' → LowT ns o ls o' → Q .non H'
section
variable {P : Program} {w : World} {K : Frag} {mg : Str → Option Value} {base : Heap}
theorem ok_PolyD_initD (L : Lw K mg) {fd : FuncData} (F : FunD K "__init__" "Poly.__init__" (defArgs s_PolyD_initD) (defBody s_PolyD_initD) (defScope s_PolyD_initD) (df_PolyD_initD.dvs K) (df_PolyD_initD.kws K) (He.fAd K ("Poly", some "__init__")) fd) : FnOk P w K mg base (L2N.CX P w) 4 (He.fAd K ("Poly", some "__init__")) fd (["self", "numbers", "over"] : List Str) (sp3 (fs_pinit K)) := by
  refine FunD.ok F sc_PolyD_initD len3 (fun cdv A outer s H vs Q E hr h => ?_)
  obtain ⟨a, b, c, rfl, h⟩ := h
  refine ⟨_, (pss_cons (ps_expr (pe_c (c_check_size (K := K) L) hr (by decide) (L2N.takes_of rfl rfl rfl rfl) (pa_cons (pv 1) (pa_cons pe_int (pa_cons pe_int pa_nil)))))
    (pss_cons (ps_expr (pe_c (c1_check_number (K := K) L) hr (by decide) (L2N.takes_of rfl rfl rfl rfl) (pa_cons (pv 2) (pa_cons pe_int pa_nil))))
    (pss_cons (ps_asg (pe_c (c_lowest_terms (K := K) L) hr (by decide) (L2N.takes_of rfl rfl rfl rfl) (pa_cons (pv 1) (pa_cons (pv 2) pa_nil))) (pg_tup (by rfl) (pgs_cons (pg_attK (K := K) rfl (pv 0)) (pgs_cons (pg_attK (K := K) rfl (pv 0)) pgs_nil))))
    (pss_one (ps_fld (pv 0) (pe_op o_sub (pe_callB (callK rLen1 (K := K) rfl o_len) (by rfl) L.f_len (by decide +kernel) (pa_cons (pe_fld (pv 0) rfl) pa_nil)) pe_int) rfl))))), ?_⟩
  obtain ⟨x, dx, q, H0, ns, o, rfl, rfl, rfl, rfl, hx, hdx, ne, hq, hl, o1, o2, k⟩ := h
  have sm : Same H0 (upd (upd H0 dx (.own x)) x (.ins (He.ga K "Poly") dx [])) := (Same.put (Same.new hdx) hx)
  have hq' := sm _ _ hq
  have hxx : upd (upd H0 dx (.own x)) x (.ins (He.ga K "Poly") dx []) x = some (.ins (He.ga K "Poly") dx []) := upd_same
  generalize upd (upd H0 dx (.own x)) x (.ins (He.ga K "Poly") dx []) = H at *
  walk_at "zz"
  refine ⟨_, _, _, rfl, q, _, 0, 200, rfl, rfl, rfl, hq', fun _ => ?_, fun z => absurd ⟨by omega, by rw [List.length_map]; omega⟩ z⟩
  walk_at "zz"
  refine ⟨_, _, _, rfl, o, 1, rfl, rfl, .inl rfl, fun _ => ?_, fun z => absurd ⟨o1, fun h e => by cases e⟩ z⟩
  walk_at "zz"
  refine ⟨_, _, rfl, q, ns, o, rfl, rfl, hq', by omega, o1, o2, fun t u H1 ls o' s1 et eu lw => ?_⟩
  walk_at "zz"
  refine z_gfld L.cl_Poly L.na_Poly_numbers rfl (s1 _ _ hxx) (by decide) ?_
  walk_at "zz"
  refine z_gfld L.cl_Poly L.na_Poly_over rfl upd_same (by show 1 < 1000; decide) ?_
  rw [pfN]
  have e1 : putF "over" (.int o') [("numbers", .ref u)] = [(("numbers" : Str), V.ref u), ("over", .int o')] := by
    rw [pfB (by decide +kernel), pfN]
  rw [e1]
  have sx : Same H0 (upd (upd H1 x (.ins (He.ga K "Poly") dx [("numbers", .ref u)])) x (.ins (He.ga K "Poly") dx [("numbers", .ref u), ("over", .int o')])) := Same.put (Same.put (sm.trans s1) hx) hx
  have ux : u ≠ x := fun e => by
    rw [e, s1 _ _ hxx] at eu
    cases eu
  have eu2 : (upd (upd H1 x (.ins (He.ga K "Poly") dx [("numbers", .ref u)])) x (.ins (He.ga K "Poly") dx [("numbers", .ref u), ("over", .int o')])) u = some (.tup (ls.map V.int)) := by
    rw [upd_ne ux, upd_ne ux]
    exact eu
  have ex2 : (upd (upd H1 x (.ins (He.ga K "Poly") dx [("numbers", .ref u)])) x (.ins (He.ga K "Poly") dx [("numbers", .ref u), ("over", .int o')])) x = some (.ins (He.ga K "Poly") dx [("numbers", .ref u), ("over", .int o')]) := upd_same
  generalize (upd (upd H1 x (.ins (He.ga K "Poly") dx [("numbers", .ref u)])) x (.ins (He.ga K "Poly") dx [("numbers", .ref u), ("over", .int o')])) = H2 at *
  walk_at "zz"
  refine z_fldG L.cl_Poly L.na_Poly_numbers rfl ex2 lkA ?_
  walk_at "zz"
  refine z_lenT eu2 ?_
  walk_at "zz"
  refine z_sflp L.cl_Poly L.na_Poly_degree rfl ex2 (by show 2 < 1000; decide) ?_
  rw [pfB (by decide +kernel), pfB (by decide +kernel), pfN, List.length_map]
  walk_at "zz"
  refine k _ ls _ (Same.put sx hx) ⟨dx, u, upd_same, ?_⟩ lw
  rw [upd_ne ux]
  exact eu2
theorem c_PolyD_initD (L : Lw K mg) : Mak P w K mg base 4 "Poly" (He.ga K "Poly") (sp3 (fs_pinit K)) [] := by
  obtain ⟨fd, F⟩ := L.d_PolyD_initD
  obtain ⟨ds, vds, bds⟩ := F.binds1 (ps := ["self", "numbers", "over"]) 3 1 (by intro z; cases z) rfl (fun _ _ _ _ _ _ _ us its hl hi => match us, its, hl, hi with | [_, _, _], [_], _, _ => ⟨_, rfl, rfl⟩)
  exact ⟨⟨_, fd, ["self", "numbers", "over"], ds, L.mk_Poly, ok_PolyD_initD L F, L.g_Poly, bds, vds⟩⟩
theorem c1_PolyD_initD (L : Lw K mg) : Mak P w K mg base 4 "Poly" (He.ga K "Poly") (sp3 (fs_pinit K)) [V.int 1] := by
  obtain ⟨fd, F⟩ := L.d_PolyD_initD
  obtain ⟨ds, vds, bds⟩ := F.binds1 (ps := ["self", "numbers", "over"]) 2 0 (by intro z; cases z) rfl (fun _ _ _ _ _ _ _ us its hl hi => match us, its, hl, hi with | [_, _], [_], _, _ => ⟨_, rfl, rfl⟩)
  exact ⟨⟨_, fd, ["self", "numbers", "over"], ds, L.mk_Poly, ok_PolyD_initD L F, L.g_Poly, bds, vds⟩⟩
end
end T

set_option maxHeartbeats 4000000
namespace T
open PySem PySem.Spec PyProof.Rows L2 Z
/-! the readings' steps, as one word: walk_at "z" (one step), "zz" (as far as it goes), "up" (a fact carried here) -/
local macro_rules | `(tactic| walk_at "up") => `(tactic| first
  | assumption
  | (refine' IsR.mono (by assumption) ?zup; case zup => walk_at "up")
  | (refine' IsE.mono (by assumption) ?zup; case zup => walk_at "up")
  | (refine' Same.at (by assumption) ?zup; case zup => walk_at "up")
  | (refine' SqL.of ?zup; case zup => walk_at "up")
  | (refine' L2.Same.seq (by assumption) ?zup; case zup => walk_at "up"))
local macro_rules | `(tactic| walk_at "z") => `(tactic| first
  | ((with_reducible refine' z_var ?zvh ?_); (case zvh => exact rfl))
  | with_reducible refine z_c ?_
  | with_reducible refine z_cons ?_
  | with_reducible refine z_nil ?_
  | with_reducible refine z_op ?_
  | with_reducible refine z_nx ?_
  | with_reducible refine z_seq ?_
  | with_reducible refine z_asg ?_
  | with_reducible refine z_asgG ?_
  | with_reducible refine z_call ?_
  | with_reducible refine z_sq0 ?_
  | with_reducible refine z_sq1 ?_
  | with_reducible refine z_ifS ?_
  | with_reducible refine z_test ?_
  | with_reducible refine z_tb ?_
  | with_reducible refine z_bl ?_
  | with_reducible refine z_blI ?_
  | with_reducible refine z_ret ?_
  | with_reducible refine z_rt ?_
  | with_reducible refine z_T ?_
  | with_reducible refine z_F ?_
  | with_reducible refine z_add ?_
  | with_reducible refine z_sub ?_
  | with_reducible refine z_neg ?_
  | with_reducible refine z_un ?_
  | with_reducible refine z_eqI ?_
  | with_reducible refine z_neI ?_
  | with_reducible refine z_lt ?_
  | with_reducible refine z_le ?_
  | with_reducible refine z_gt ?_
  | with_reducible refine z_ge ?_
  | with_reducible refine z_not ?_
  | with_reducible refine z_and ?_
  | with_reducible refine z_or ?_
  | with_reducible refine z_andV ?_
  | with_reducible refine z_orV ?_
  | with_reducible refine z_notV ?_
  | with_reducible refine z_if ?_
  | with_reducible refine z_cb ?_
  | with_reducible refine z_int1 ?_
  | with_reducible refine z_intb ?_
  | with_reducible refine z_abs ?_
  | with_reducible refine z_gcd ?_
  | with_reducible refine z_isi_ii ?_
  | with_reducible refine z_isi_ib ?_
  | with_reducible refine z_next ?_
  | with_reducible refine z_drop ?_
  | with_reducible refine z_par ?_
  | with_reducible refine z_par2 ?_
  | with_reducible refine z_tupN ?_
  | with_reducible refine z_lstN ?_
  | ((with_reducible refine' z_nt ?zl1 ?_); (case zl1 => exact Nat.le_of_ble_eq_true rfl); intro p H' hp hs he)
  | ((with_reducible refine' z_gtup ?zl1 ?zl2 ?_); (case zl1 => walk_at "up"); (case zl2 => exact rfl))
  | with_reducible refine z_bk ?_
  | with_reducible refine z_ct ?_
  | with_reducible refine z_break ?_
  | with_reducible refine z_cont ?_
  | with_reducible refine z_retN ?_
  | with_reducible refine z_nn ?_
  | with_reducible refine z_mk ?_
  | with_reducible refine z_gn ?_
  | with_reducible refine z_gcons ?_
  | with_reducible refine z_gnil ?_
  | with_reducible refine z_mt ?_
  | with_reducible refine z_mko ?_
  | with_reducible refine z_for2 ?_
  | with_reducible refine z_ownI ?_
  | ((with_reducible refine' z_lenL ?zl1 ?_); (case zl1 => walk_at "up"))
  | ((with_reducible refine' z_ixT ?zl1 ?zl2 ?_); (case zl1 => walk_at "up"); (case zl2 => exact rfl))
  | ((with_reducible refine' z_mulL ?zl1 ?zl2 ?_); (case zl1 => omega); (case zl2 => omega))
  | ((with_reducible refine' z_mulR ?zl1 ?zl2 ?_); (case zl1 => omega); (case zl2 => omega))
  | ((with_reducible refine' z_divS ?zl1 ?zl2 ?_); (case zl1 => omega); (case zl2 => omega))
  | ((with_reducible refine' z_mulW ?zl1 ?zl2 ?zl3 ?zl4 ?_); (case zl1 => omega); (case zl2 => omega); (case zl3 => omega); (case zl4 => omega))
  | ((with_reducible refine' z_divW ?zl1 ?zl2 ?_); (case zl1 => omega); (case zl2 => omega)))
local macro_rules | `(tactic| walk_at "zz") => `(tactic| repeat (walk_at "z"))
local macro_rules | `(tactic| walk_at "z") => `(tactic| with_reducible refine z_lstN ?_)
local macro_rules | `(tactic| walk_at "z") => `(tactic| with_reducible refine z_p6 ?_)
local macro_rules | `(tactic| walk_at "z") => `(tactic| with_reducible refine z_p12 ?_)
local macro_rules | `(tactic| walk_at "z") => `(tactic| with_reducible refine z_p13 ?_)
local macro_rules | `(tactic| walk_at "z") => `(tactic| with_reducible refine z_calln ?_)
local macro_rules | `(tactic| walk_at "z") => `(tactic| with_reducible refine z_xfS ?_)
local macro_rules | `(tactic| walk_at "z") => `(tactic| with_reducible refine z_lcS ?_)
local macro_rules | `(tactic| walk_at "z") => `(tactic| with_reducible refine z_lcRS ?_)
local macro_rules | `(tactic| walk_at "z") => `(tactic| with_reducible refine z_lcZS ?_)
local macro_rules | `(tactic| walk_at "z") => `(tactic| with_reducible refine z_foS ?_)
local macro_rules | `(tactic| walk_at "z") => `(tactic| with_reducible refine z_for1 ?_)
local macro_rules | `(tactic| walk_at "z") => `(tactic| with_reducible refine z_tsl ?_)
local macro_rules | `(tactic| walk_at "z") => `(tactic| with_reducible refine z_np ?_)
local macro_rules | `(tactic| walk_at "z") => `(tactic| with_reducible refine z_pt ?_)
local macro_rules | `(tactic| walk_at "z") => `(tactic| with_reducible refine z_pti ?_)
local macro_rules | `(tactic| walk_at "z") => `(tactic| with_reducible refine z_catI ?_)
local macro_rules | `(tactic| walk_at "z") => `(tactic| with_reducible refine z_isNI ?_)
local macro_rules | `(tactic| walk_at "z") => `(tactic| with_reducible refine z_isNN ?_)
local macro_rules | `(tactic| walk_at "z") => `(tactic| with_reducible refine z_notNI ?_)
local macro_rules | `(tactic| walk_at "z") => `(tactic| with_reducible refine z_notNN ?_)
local macro_rules | `(tactic| walk_at "z") => `(tactic| with_reducible refine z_gsub ?_)
local macro_rules | `(tactic| walk_at "z") => `(tactic| with_reducible refine z_isNb ?_)
local macro_rules | `(tactic| walk_at "z") => `(tactic| with_reducible refine z_notNb ?_)
local macro_rules | `(tactic| walk_at "z") => `(tactic| ((with_reducible refine' z_nlR ?zl1 ?_); (case zl1 => exact Nat.le_of_ble_eq_true rfl); intro p H' hp hs he))
local macro_rules | `(tactic| walk_at "z") => `(tactic| ((with_reducible refine' z_repR ?zl1 ?zl2 ?_); (case zl1 => omega); (case zl2 => omega)))
local macro_rules | `(tactic| walk_at "z") => `(tactic| ((with_reducible refine' z_repL ?zl1 ?zl2 ?_); (case zl1 => omega); (case zl2 => omega)))
local macro_rules | `(tactic| walk_at "z") => `(tactic| ((with_reducible refine' z_lenLst ?zl1 ?_); (case zl1 => walk_at "up")))
local macro_rules | `(tactic| walk_at "z") => `(tactic| ((with_reducible refine' z_cat ?zl1 ?zl2 ?zl3 ?_); (case zl1 => walk_at "up"); (case zl2 => walk_at "up"); (case zl3 => (simp only [List.length_map, List.length_cons, List.length_nil, List.length_append, List.length_replicate]; omega)); intro p H' hp hs he))
local macro_rules | `(tactic| walk_at "z") => `(tactic| with_reducible refine z_sfl ?_)
local macro_rules | `(tactic| walk_at "z") => `(tactic| with_reducible refine z_lcES ?_)
local macro_rules | `(tactic| walk_at "z") => `(tactic| with_reducible refine z_lcMS ?_)
local macro_rules | `(tactic| walk_at "z") => `(tactic| with_reducible refine z_foES ?_)
local macro_rules | `(tactic| walk_at "z") => `(tactic| with_reducible refine z_fo3S ?_)
local macro_rules | `(tactic| walk_at "z") => `(tactic| with_reducible refine z_sta ?_)
local macro_rules | `(tactic| walk_at "z") => `(tactic| with_reducible refine z_sta1 ?_)
local macro_rules | `(tactic| walk_at "z") => `(tactic| ((with_reducible refine' z_fldt ?zc1 ?zc2 ?zl1 ?zl2 ?_); (case zc1 => exact Lw.cl_Ratio (by assumption)); (case zc2 => exact Lw.na_Ratio_top (by assumption)); (case zl1 => exact rfl); (case zl2 => walk_at "up")))
local macro_rules | `(tactic| walk_at "z") => `(tactic| ((with_reducible refine' z_fldb ?zc1 ?zc2 ?zl1 ?zl2 ?_); (case zc1 => exact Lw.cl_Ratio (by assumption)); (case zc2 => exact Lw.na_Ratio_bottom (by assumption)); (case zl1 => exact rfl); (case zl2 => walk_at "up")))
theorem same30c {H H1 H2 : Hp} (h : Same H1 H2) (e : Same H H1) : Same H H2 := e.trans h
local macro_rules | `(tactic| walk_at "sm") => `(tactic| first
  | assumption
  | exact fun _ _ h => h
  | (refine' same30c (by assumption) ?zsm; case zsm => walk_at "sm"))
local macro_rules | `(tactic| walk_at "up") => `(tactic| first
  | assumption
  | (with_reducible refine' IsR.mono (by assumption) ?zup; case zup => walk_at "up")
  | (with_reducible refine' IsV.mono (by assumption) ?zup; case zup => walk_at "up")
  | (with_reducible refine' IsQ.mono (by assumption) ?zup; case zup => walk_at "up")
  | (with_reducible refine' Same.at (by assumption) ?zup; case zup => walk_at "up")
  | fail)

open S31 (cf)
open S30
theorem u_low {H : Hp} {Q : VK} {E : XK} {p : Addr} {ns : List Int} {o : Int} (h : H p = some (.lst (ns.map V.int))) (hl : ns.length ≤ 16777216) (o1 : 1 ≤ o) (o2 : Bits 8999 o)
    (k : ∀ t q H' ls o', Same H H' → H' t = some (.tup [.ref q, .int o']) → H' q = some (.tup (ls.map V.int)) → LowT ns o ls o' → Q (.ref t) H') : sp2 fs_low [.ref p, .int o] H Q E := ⟨_, _, rfl, p, ns, o, rfl, rfl, h, hl, o1, o2, k⟩
theorem u_mkP {K : Frag} {H : Hp} {Q : VK} {E : XK} {q : Addr} {ns : List Int} {o : Int} (h : H q = some (.lst (ns.map V.int))) (hl : ns.length ≤ 200) (o1 : 1 ≤ o) (o2 : Bits 8999 o) (k : ∀ x H' ls o', Same H H' → IsQ K H' x ls o' → LowT ns o ls o' → Q (.ref x) H') :
    zMk (He.ga K "Poly") (sp3 (fs_pinit K)) [] E [.ref q, .int o] H Q :=
  fun x dx hx hdx ne => ⟨_, _, _, rfl, x, dx, q, H, ns, o, rfl, rfl, rfl, rfl, hx, hdx, ne, h, hl, o1, o2, fun H' ls o' s p l => ⟨rfl, k x H' ls o' s p l⟩⟩
theorem u_mkP1 {K : Frag} {H : Hp} {Q : VK} {E : XK} {q : Addr} {ns : List Int} (h : H q = some (.lst (ns.map V.int))) (hl : ns.length ≤ 200) (k : ∀ x H' ls o', H x = none → Same H H' → IsQ K H' x ls o' → LowT ns 1 ls o' → Q (.ref x) H') :
    zMk (He.ga K "Poly") (sp3 (fs_pinit K)) [.int 1] E [.ref q] H Q :=
  fun x dx hx hdx ne => ⟨_, _, _, rfl, x, dx, q, H, ns, 1, rfl, rfl, rfl, rfl, hx, hdx, ne, h, hl, by decide, Bits.up (Bits.small (n := 2) (by decide) (by decide)) (by decide), fun H' ls o' s p l => ⟨rfl, k x H' ls o' hx s p l⟩⟩
def fs_made (K : Frag) : F2 := fun a b H Q _ => ∃ (p : Addr) (ns : List Int) (o : Int), a = .ref p ∧ b = .int o ∧ H p = some (.lst (ns.map V.int)) ∧ ns.length ≤ 16777216 ∧ 1 ≤ o ∧ Bits 8999 o ∧ ∀ x H' ls o', Same H H' → IsQ K H' x ls o' → LowT ns o ls o' → Q (.ref x) H'
theorem u_made {K : Frag} {H : Hp} {Q : VK} {E : XK} {p : Addr} {ns : List Int} {o : Int} (h : H p = some (.lst (ns.map V.int))) (hl : ns.length ≤ 16777216) (o1 : 1 ≤ o) (o2 : Bits 8999 o)
    (k : ∀ x H' ls o', Same H H' → IsQ K H' x ls o' → LowT ns o ls o' → Q (.ref x) H') : sp2 (fs_made K) [.ref p, .int o] H Q E := ⟨_, _, rfl, p, ns, o, rfl, rfl, h, hl, o1, o2, k⟩
section
variable {P : Program} {w : World} {K : Frag} {mg : Str → Option Value} {base : Heap}
theorem ok_Poly_made (L : Lw K mg) {fd : FuncData} (F : FunD K "made" "Poly.made" (defArgs s_Poly_made) (defBody s_Poly_made) (defScope s_Poly_made) (df_Poly_made.dvs K) (df_Poly_made.kws K) (He5.wf K (He.ga K "Poly") "staticmethod" "made") fd) : FnOk P w K mg base (L2N.CX P w) 6 (He5.wf K (He.ga K "Poly") "staticmethod" "made") fd (["numbers", "over"] : List Str) (sp2 (fs_made K)) := by
  refine FunD.ok F sc_Poly_made len2 (fun cdv A outer s H vs Q E hr h => ?_)
  obtain ⟨a, b, rfl, h⟩ := h
  refine ⟨_, (pss_cons (ps_set (i := 2) sc_Poly_made.nd rfl (by first | exact Or.inl rfl | exact Or.inr rfl) (pe_c (c_lowest_terms (K := K) L) hr (by decide) (L2N.takes_of rfl rfl rfl rfl) (pa_cons (pv 0) (pa_cons (pv 1) pa_nil))))
    (pss_cons (ps_set (i := 3) sc_Poly_made.nd rfl (by first | exact Or.inl rfl | exact Or.inr rfl) (pe_mk (c1_PolyD_initD (K := K) L) hr (by decide) (L2N.takes_of rfl rfl rfl rfl) (pa_cons (pe_lst pa_nil) pa_nil)))
    (pss_cons (ps_fld (pv 3) (pe_ix (ix_seqK (K := K) rfl) (pv 2) pe_int (fun _ _ => rfl)) rfl)
    (pss_cons (ps_fld (pv 3) (pe_ix (ix_seqK (K := K) rfl) (pv 2) pe_int (fun _ _ => rfl)) rfl)
    (pss_cons (ps_fld (pv 3) (pe_op o_sub (pe_callB (callK rLen1 (K := K) rfl o_len) (by rfl) L.f_len (by decide +kernel) (pa_cons (pe_ix (ix_seqK (K := K) rfl) (pv 2) pe_int (fun _ _ => rfl)) pa_nil)) pe_int) rfl)
    (pss_one (ps_ret (pv 3)))))))), ?_⟩
  obtain ⟨p, ns, o, rfl, rfl, hp, hl, o1, o2, k⟩ := h
  walk_at "zz"
  refine u_low hp hl o1 o2 (fun t q H1 ls o' s1 et eq lw => ?_)
  walk_at "zz"
  rename_i pe Hb0 hpe se ee
  refine u_mkP1 (ns := []) ee (by decide) (fun x H2 ls0 o0 hx s2 ⟨dx, t0, ex, _⟩ _ => ?_)
  have sH : Same H H2 := s1.trans (se.trans s2)
  have hHx : H x = none := Same.none (s1.trans se) hx
  have et2 := s2 _ _ (se _ _ et)
  have eq2 := s2 _ _ (se _ _ eq)
  have tx : t ≠ x := ne_of_none (se _ _ et) hx
  have qx : q ≠ x := ne_of_none (se _ _ eq) hx
  walk_at "zz"
  refine z_sflp L.cl_Poly L.na_Poly_numbers rfl ex (by show 3 < 1000; decide) ?_
  rw [pfA]
  have sH3 : Same H (upd H2 x (.ins (He.ga K "Poly") dx [("numbers", .ref q), ("over", .int o0), ("degree", .int ((ls0.length : Int) - 1))])) := Same.put sH hHx
  have et3 : (upd H2 x (.ins (He.ga K "Poly") dx [("numbers", .ref q), ("over", .int o0), ("degree", .int ((ls0.length : Int) - 1))])) t = some (.tup [.ref q, .int o']) := by rw [upd_ne tx]; exact et2
  have eq3 : (upd H2 x (.ins (He.ga K "Poly") dx [("numbers", .ref q), ("over", .int o0), ("degree", .int ((ls0.length : Int) - 1))])) q = some (.tup (ls.map V.int)) := by rw [upd_ne qx]; exact eq2
  have ex3 : (upd H2 x (.ins (He.ga K "Poly") dx [("numbers", .ref q), ("over", .int o0), ("degree", .int ((ls0.length : Int) - 1))])) x = some (.ins (He.ga K "Poly") dx [("numbers", .ref q), ("over", .int o0), ("degree", .int ((ls0.length : Int) - 1))]) := upd_same
  generalize (upd H2 x (.ins (He.ga K "Poly") dx [("numbers", .ref q), ("over", .int o0), ("degree", .int ((ls0.length : Int) - 1))])) = H3 at *
  walk_at "zz"
  refine z_sflp L.cl_Poly L.na_Poly_over rfl ex3 (by show 3 < 1000; decide) ?_
  rw [pfB (by decide +kernel), pfA]
  have sH4 : Same H (upd H3 x (.ins (He.ga K "Poly") dx [("numbers", .ref q), ("over", .int o'), ("degree", .int ((ls0.length : Int) - 1))])) := Same.put sH3 hHx
  have et4 : (upd H3 x (.ins (He.ga K "Poly") dx [("numbers", .ref q), ("over", .int o'), ("degree", .int ((ls0.length : Int) - 1))])) t = some (.tup [.ref q, .int o']) := by rw [upd_ne tx]; exact et3
  have eq4 : (upd H3 x (.ins (He.ga K "Poly") dx [("numbers", .ref q), ("over", .int o'), ("degree", .int ((ls0.length : Int) - 1))])) q = some (.tup (ls.map V.int)) := by rw [upd_ne qx]; exact eq3
  have ex4 : (upd H3 x (.ins (He.ga K "Poly") dx [("numbers", .ref q), ("over", .int o'), ("degree", .int ((ls0.length : Int) - 1))])) x = some (.ins (He.ga K "Poly") dx [("numbers", .ref q), ("over", .int o'), ("degree", .int ((ls0.length : Int) - 1))]) := upd_same
  generalize (upd H3 x (.ins (He.ga K "Poly") dx [("numbers", .ref q), ("over", .int o'), ("degree", .int ((ls0.length : Int) - 1))])) = H4 at *
  walk_at "zz"
  refine z_lenT eq4 ?_
  walk_at "zz"
  refine z_sflp L.cl_Poly L.na_Poly_degree rfl ex4 (by show 3 < 1000; decide) ?_
  rw [pfB (by decide +kernel), pfB (by decide +kernel), pfA, List.length_map]
  walk_at "zz"
  refine k x _ ls o' (Same.put sH4 hHx) ⟨dx, q, upd_same, ?_⟩ lw
  rw [upd_ne qx]
  exact eq4
theorem c_Poly_made (L : Lw K mg) : Sta P w K mg base 6 (He.ga K "Poly") "made" (sp2 (fs_made K)) [] := by
  obtain ⟨fd, F⟩ := L.d_Poly_made
  exact ⟨⟨_, _, fd, ["numbers", "over"], [], L.cr_Poly, L.sm_Poly_made, ok_Poly_made L F, F.kp, F.bindsN (fun _ _ _ _ _ _ us hl => match us, hl with | [_, _], _ => rfl), .nil⟩⟩
end
end T

set_option maxHeartbeats 4000000
namespace T
open PySem PySem.Spec PyProof.Rows L2 Z
/-! the readings' steps, as one word: walk_at "z" (one step), "zz" (as far as it goes), "up" (a fact carried here) -/
local macro_rules | `(tactic| walk_at "up") => `(tactic| first
  | assumption
  | (refine' IsR.mono (by assumption) ?zup; case zup => walk_at "up")
  | (refine' IsE.mono (by assumption) ?zup; case zup => walk_at "up")
  | (refine' Same.at (by assumption) ?zup; case zup => walk_at "up")
  | (refine' SqL.of ?zup; case zup => walk_at "up")
  | (refine' L2.Same.seq (by assumption) ?zup; case zup => walk_at "up"))
local macro_rules | `(tactic| walk_at "z") => `(tactic| first
  | ((with_reducible refine' z_var ?zvh ?_); (case zvh => exact rfl))
  | with_reducible refine z_c ?_
  | with_reducible refine z_cons ?_
  | with_reducible refine z_nil ?_
  | with_reducible refine z_op ?_
  | with_reducible refine z_nx ?_
  | with_reducible refine z_seq ?_
  | with_reducible refine z_asg ?_
  | with_reducible refine z_asgG ?_
  | with_reducible refine z_call ?_
  | with_reducible refine z_sq0 ?_
  | with_reducible refine z_sq1 ?_
  | with_reducible refine z_ifS ?_
  | with_reducible refine z_test ?_
  | with_reducible refine z_tb ?_
  | with_reducible refine z_bl ?_
  | with_reducible refine z_blI ?_
  | with_reducible refine z_ret ?_
  | with_reducible refine z_rt ?_
  | with_reducible refine z_T ?_
  | with_reducible refine z_F ?_
  | with_reducible refine z_add ?_
  | with_reducible refine z_sub ?_
  | with_reducible refine z_neg ?_
  | with_reducible refine z_un ?_
  | with_reducible refine z_eqI ?_
  | with_reducible refine z_neI ?_
  | with_reducible refine z_lt ?_
  | with_reducible refine z_le ?_
  | with_reducible refine z_gt ?_
  | with_reducible refine z_ge ?_
  | with_reducible refine z_not ?_
  | with_reducible refine z_and ?_
  | with_reducible refine z_or ?_
  | with_reducible refine z_andV ?_
  | with_reducible refine z_orV ?_
  | with_reducible refine z_notV ?_
  | with_reducible refine z_if ?_
  | with_reducible refine z_cb ?_
  | with_reducible refine z_int1 ?_
  | with_reducible refine z_intb ?_
  | with_reducible refine z_abs ?_
  | with_reducible refine z_gcd ?_
  | with_reducible refine z_isi_ii ?_
  | with_reducible refine z_isi_ib ?_
  | with_reducible refine z_next ?_
  | with_reducible refine z_drop ?_
  | with_reducible refine z_par ?_
  | with_reducible refine z_par2 ?_
  | with_reducible refine z_tupN ?_
  | with_reducible refine z_lstN ?_
  | ((with_reducible refine' z_nt ?zl1 ?_); (case zl1 => exact Nat.le_of_ble_eq_true rfl); intro p H' hp hs he)
  | ((with_reducible refine' z_gtup ?zl1 ?zl2 ?_); (case zl1 => walk_at "up"); (case zl2 => exact rfl))
  | with_reducible refine z_bk ?_
  | with_reducible refine z_ct ?_
  | with_reducible refine z_break ?_
  | with_reducible refine z_cont ?_
  | with_reducible refine z_retN ?_
  | with_reducible refine z_nn ?_
  | with_reducible refine z_mk ?_
  | with_reducible refine z_gn ?_
  | with_reducible refine z_gcons ?_
  | with_reducible refine z_gnil ?_
  | with_reducible refine z_mt ?_
  | with_reducible refine z_mko ?_
  | with_reducible refine z_for2 ?_
  | with_reducible refine z_ownI ?_
  | ((with_reducible refine' z_lenL ?zl1 ?_); (case zl1 => walk_at "up"))
  | ((with_reducible refine' z_ixT ?zl1 ?zl2 ?_); (case zl1 => walk_at "up"); (case zl2 => exact rfl))
  | ((with_reducible refine' z_mulL ?zl1 ?zl2 ?_); (case zl1 => omega); (case zl2 => omega))
  | ((with_reducible refine' z_mulR ?zl1 ?zl2 ?_); (case zl1 => omega); (case zl2 => omega))
  | ((with_reducible refine' z_divS ?zl1 ?zl2 ?_); (case zl1 => omega); (case zl2 => omega))
  | ((with_reducible refine' z_mulW ?zl1 ?zl2 ?zl3 ?zl4 ?_); (case zl1 => omega); (case zl2 => omega); (case zl3 => omega); (case zl4 => omega))
  | ((with_reducible refine' z_divW ?zl1 ?zl2 ?_); (case zl1 => omega); (case zl2 => omega)))
local macro_rules | `(tactic| walk_at "zz") => `(tactic| repeat (walk_at "z"))
local macro_rules | `(tactic| walk_at "z") => `(tactic| with_reducible refine z_lstN ?_)
local macro_rules | `(tactic| walk_at "z") => `(tactic| with_reducible refine z_p6 ?_)
local macro_rules | `(tactic| walk_at "z") => `(tactic| with_reducible refine z_p12 ?_)
local macro_rules | `(tactic| walk_at "z") => `(tactic| with_reducible refine z_p13 ?_)
local macro_rules | `(tactic| walk_at "z") => `(tactic| with_reducible refine z_calln ?_)
local macro_rules | `(tactic| walk_at "z") => `(tactic| with_reducible refine z_xfS ?_)
local macro_rules | `(tactic| walk_at "z") => `(tactic| with_reducible refine z_lcS ?_)
local macro_rules | `(tactic| walk_at "z") => `(tactic| with_reducible refine z_lcRS ?_)
local macro_rules | `(tactic| walk_at "z") => `(tactic| with_reducible refine z_lcZS ?_)
local macro_rules | `(tactic| walk_at "z") => `(tactic| with_reducible refine z_foS ?_)
local macro_rules | `(tactic| walk_at "z") => `(tactic| with_reducible refine z_for1 ?_)
local macro_rules | `(tactic| walk_at "z") => `(tactic| with_reducible refine z_tsl ?_)
local macro_rules | `(tactic| walk_at "z") => `(tactic| with_reducible refine z_np ?_)
local macro_rules | `(tactic| walk_at "z") => `(tactic| with_reducible refine z_pt ?_)
local macro_rules | `(tactic| walk_at "z") => `(tactic| with_reducible refine z_pti ?_)
local macro_rules | `(tactic| walk_at "z") => `(tactic| with_reducible refine z_catI ?_)
local macro_rules | `(tactic| walk_at "z") => `(tactic| with_reducible refine z_isNI ?_)
local macro_rules | `(tactic| walk_at "z") => `(tactic| with_reducible refine z_isNN ?_)
local macro_rules | `(tactic| walk_at "z") => `(tactic| with_reducible refine z_notNI ?_)
local macro_rules | `(tactic| walk_at "z") => `(tactic| with_reducible refine z_notNN ?_)
local macro_rules | `(tactic| walk_at "z") => `(tactic| with_reducible refine z_gsub ?_)
local macro_rules | `(tactic| walk_at "z") => `(tactic| with_reducible refine z_isNb ?_)
local macro_rules | `(tactic| walk_at "z") => `(tactic| with_reducible refine z_notNb ?_)
local macro_rules | `(tactic| walk_at "z") => `(tactic| ((with_reducible refine' z_nlR ?zl1 ?_); (case zl1 => exact Nat.le_of_ble_eq_true rfl); intro p H' hp hs he))
local macro_rules | `(tactic| walk_at "z") => `(tactic| ((with_reducible refine' z_repR ?zl1 ?zl2 ?_); (case zl1 => omega); (case zl2 => omega)))
local macro_rules | `(tactic| walk_at "z") => `(tactic| ((with_reducible refine' z_repL ?zl1 ?zl2 ?_); (case zl1 => omega); (case zl2 => omega)))
local macro_rules | `(tactic| walk_at "z") => `(tactic| ((with_reducible refine' z_lenLst ?zl1 ?_); (case zl1 => walk_at "up")))
local macro_rules | `(tactic| walk_at "z") => `(tactic| ((with_reducible refine' z_cat ?zl1 ?zl2 ?zl3 ?_); (case zl1 => walk_at "up"); (case zl2 => walk_at "up"); (case zl3 => (simp only [List.length_map, List.length_cons, List.length_nil, List.length_append, List.length_replicate]; omega)); intro p H' hp hs he))
local macro_rules | `(tactic| walk_at "z") => `(tactic| with_reducible refine z_sfl ?_)
local macro_rules | `(tactic| walk_at "z") => `(tactic| with_reducible refine z_lcES ?_)
local macro_rules | `(tactic| walk_at "z") => `(tactic| with_reducible refine z_lcMS ?_)
local macro_rules | `(tactic| walk_at "z") => `(tactic| with_reducible refine z_foES ?_)
local macro_rules | `(tactic| walk_at "z") => `(tactic| with_reducible refine z_fo3S ?_)
local macro_rules | `(tactic| walk_at "z") => `(tactic| with_reducible refine z_sta ?_)
local macro_rules | `(tactic| walk_at "z") => `(tactic| with_reducible refine z_sta1 ?_)
local macro_rules | `(tactic| walk_at "z") => `(tactic| ((with_reducible refine' z_fldt ?zc1 ?zc2 ?zl1 ?zl2 ?_); (case zc1 => exact Lw.cl_Ratio (by assumption)); (case zc2 => exact Lw.na_Ratio_top (by assumption)); (case zl1 => exact rfl); (case zl2 => walk_at "up")))
local macro_rules | `(tactic| walk_at "z") => `(tactic| ((with_reducible refine' z_fldb ?zc1 ?zc2 ?zl1 ?zl2 ?_); (case zc1 => exact Lw.cl_Ratio (by assumption)); (case zc2 => exact Lw.na_Ratio_bottom (by assumption)); (case zl1 => exact rfl); (case zl2 => walk_at "up")))
theorem same30d {H H1 H2 : Hp} (h : Same H1 H2) (e : Same H H1) : Same H H2 := e.trans h
local macro_rules | `(tactic| walk_at "sm") => `(tactic| first
  | assumption
  | exact fun _ _ h => h
  | (refine' same30d (by assumption) ?zsm; case zsm => walk_at "sm"))
local macro_rules | `(tactic| walk_at "up") => `(tactic| first
  | assumption
  | (with_reducible refine' IsR.mono (by assumption) ?zup; case zup => walk_at "up")
  | (with_reducible refine' IsV.mono (by assumption) ?zup; case zup => walk_at "up")
  | (with_reducible refine' IsQ.mono (by assumption) ?zup; case zup => walk_at "up")
  | (with_reducible refine' Same.at (by assumption) ?zup; case zup => walk_at "up")
  | fail)

open S31 (cf)
open S30
theorem cf_snoc {ns : List Int} {v : Int} {k : Nat} : cf (ns ++ [v]) k = if k < ns.length then cf ns k else if k = ns.length then v else 0 := by
  unfold cf
  rw [List.getD_eq_getElem?_getD, List.getD_eq_getElem?_getD, List.getElem?_append]
  split
  · rfl
  · split
    · rename_i h1 h2
      subst h2
      rw [Nat.sub_self]
      rfl
    · rw [List.getElem?_eq_none (by simp; omega)]
      rfl
theorem z_ixcf {K : Frag} {H : Hp} {Q : VK} {a : Addr} {ns : List Int} {k : Int} {j : Nat} (h : H a = some (.lst (ns.map V.int))) (e : k = (j : Int)) (h1 : j < ns.length) (q : Q (.int (cf ns j)) H) : rIx K (.ref a) (.int k) H Q := by
  subst e
  exact z_ixC h (by omega) (by omega) (by rw [Int.toNat_natCast]; exact q)
def fs_prow : F2 := fun a b H Q _ => ∃ n m : Int, a = .int n ∧ b = .int m ∧ -18446744073709551616 < n ∧ n < 18446744073709551616 ∧ -1 ≤ m ∧ m ≤ 1000 ∧
  ∀ p H' ns, H p = none → Same H H' → H' p = some (.lst (ns.map V.int)) → ns.length = m.toNat + 1 → (∀ k, k ≤ m.toNat → cf ns k = n ^ k) → Q (.ref p) H'
theorem u_prow {H : Hp} {Q : VK} {E : XK} {n m : Int} (h1 : -18446744073709551616 < n) (h2 : n < 18446744073709551616) (m1 : -1 ≤ m) (m2 : m ≤ 1000) (k : ∀ p H' ns, H p = none → Same H H' → H' p = some (.lst (ns.map V.int)) → ns.length = m.toNat + 1 → (∀ k, k ≤ m.toNat → cf ns k = n ^ k) → Q (.ref p) H') : sp2 fs_prow [.int n, .int m] H Q E := ⟨_, _, rfl, n, m, rfl, rfl, h1, h2, m1, m2, k⟩
/-- the sign of a difference -/
def cmpQ (v w : Rat) : Int := if v < w then -1 else if w < v then 1 else 0
def fs_rcmp (K : Frag) : F2 := fun a b H Q _ => ∃ (p r : Addr) (v w : Rat) (B : Nat), a = .ref p ∧ b = .ref r ∧ IsV K H p v B ∧ IsV K H r w B ∧ 0 < B ∧ B ≤ 100000 ∧ Q (.int (cmpQ v w)) H
def fs_rsub (K : Frag) : F2 := fun a b H Q _ => ∃ (p r : Addr) (v w : Rat) (B : Nat), a = .ref p ∧ b = .ref r ∧ IsV K H p v B ∧ IsV K H r w B ∧ 0 < B ∧ B ≤ 4000 ∧ ∀ x H', Same H H' → IsV K H' x (v - w) (B + B + 1) → Q (.ref x) H'
theorem lt_cast {t u t' u' : Int} {v w : Rat} (hu : 0 < u) (hu' : 0 < u') (e : (t : Rat) = v * u) (e' : (t' : Rat) = w * u') : (t * u' < t' * u) ↔ v < w := by
  have c : (t * u' < t' * u) ↔ ((t : Rat) * u' < (t' : Rat) * u) := by
    rw [← Rat.intCast_mul, ← Rat.intCast_mul]
    exact Rat.intCast_lt_intCast.symm
  have p1 : (0 : Rat) < (u : Rat) := by exact_mod_cast hu
  have p2 : (0 : Rat) < (u' : Rat) := by exact_mod_cast hu'
  rw [c, e, e']
  constructor
  · intro h
    by_cases q : v < w
    · exact q
    · have := Rat.mul_nonneg (Rat.mul_nonneg (show 0 ≤ v - w by grind) (Rat.le_of_lt p1)) (Rat.le_of_lt p2)
      grind
  · intro h
    have := Rat.mul_pos (Rat.mul_pos (show 0 < w - v by grind) p1) p2
    grind
section
variable {P : Program} {w : World} {K : Frag} {mg : Str → Option Value} {base : Heap}
theorem ok_power_row (L : Lw K mg) {fd : FuncData} (F : FunD K "power_row" "power_row" (defArgs s_power_row) (defBody s_power_row) (defScope s_power_row) (df_power_row.dvs K) (df_power_row.kws K) (He.fAd K ("power_row", none)) fd) : FnOk P w K mg base (L2N.CX P w) 1 (He.fAd K ("power_row", none)) fd (["number", "most"] : List Str) (sp2 fs_prow) := by
  refine FunD.ok F sc_power_row len2 (fun cdv A outer s H vs Q E hr h => ?_)
  obtain ⟨a, b, rfl, h⟩ := h
  refine ⟨_, (pss_cons (ps_set (i := 2) sc_power_row.nd rfl (by first | exact Or.inl rfl | exact Or.inr rfl) (pe_lst (pa_cons pe_int pa_nil)))
    (pss_cons (ps_for (passes_of rfl) rfl (pi_range1 (by rfl) L.f_range (pa_cons (pv 1) pa_nil)) (pg_name (i := 3) sc_power_row.nd rfl (by first | exact Or.inl rfl | exact Or.inr rfl)) (pss_one (ps_expr (pe_bm PySem.F.plainAttrs_list PySem.F.slot_list_append PySem.F.type_list_append mt_append (pv 2) (pa_cons (pe_op o_rep (pe_ix (ix_seqK (K := K) rfl) (pv 2) (pv 3) (fun _ _ => rfl)) (pv 0)) pa_nil)))))
    (pss_one (ps_ret (pv 2))))), ?_⟩
  obtain ⟨n, m, rfl, rfl, h1, h2, m1, m2, k⟩ := h
  walk_at "zz"
  rename_i r Hr hr sr er
  refine z_foR (by omega) (by omega) (fun j σ' H' => ∃ (ns : List Int) (x : Option V), σ' = [some (.int n), some (.int m), some (.ref r), x] ∧ Same H H' ∧ H' r = some (.lst (ns.map V.int)) ∧ ns.length = j + 1 ∧ ∀ i, i ≤ j → cf ns i = n ^ i) ⟨[1], _, rfl, sr, er, rfl, fun i hi => by
    have : i = 0 := by omega
    subst this
    simp [cf]⟩ ?_ ?_
  · rintro j σ' H' hj ⟨ns, x, rfl, sH, hq, hl, hc⟩
    walk_at "zz"
    refine z_app rfl hq ?_
    walk_at "zz"
    refine z_ixcf hq rfl (by omega) ?_
    rw [hc j (Nat.le_refl _)]
    walk_at "zz"
    walk_at "zz"
    refine z_ap hq (by rw [List.length_map]; omega) ?_
    have e : ns.map V.int ++ [V.int (n ^ j * n)] = (ns ++ [n ^ j * n]).map V.int := by simp
    rw [e]
    walk_at "zz"
    refine ⟨ns ++ [n ^ j * n], _, rfl, Same.put sH hr, upd_same, by simp [hl], fun i hi => ?_⟩
    rw [cf_snoc]
    by_cases q : i < ns.length
    · rw [if_pos q]
      exact hc i (by omega)
    · have : i = j + 1 := by omega
      subst this
      rw [if_neg q, if_pos hl.symm]
      exact (Int.pow_succ n j).symm
  · rintro σ' H' ⟨ns, x, rfl, sH, hq, hl, hc⟩
    walk_at "zz"
    exact k r H' ns hr sH hq hl hc
theorem c_power_row (L : Lw K mg) : Cal P w K mg base 1 "power_row" (sp2 fs_prow) [] := by
  obtain ⟨fd, F⟩ := L.d_power_row
  exact ⟨⟨_, fd, ["number", "most"], [], ok_power_row L F, L.g_power_row, F.kp, F.bindsN (fun _ _ _ _ _ _ us hl => match us, hl with | [_, _], _ => rfl), .nil⟩⟩
theorem ok_Ratio_compare (L : Lw K mg) {fd : FuncData} (F : FunD K "compare" "Ratio.compare" (defArgs s_Ratio_compare) (defBody s_Ratio_compare) (defScope s_Ratio_compare) (df_Ratio_compare.dvs K) (df_Ratio_compare.kws K) (He.fAd K ("Ratio", some "compare")) fd) : FnOk P w K mg base (L2N.CX P w) 1 (He.fAd K ("Ratio", some "compare")) fd (["self", "other"] : List Str) (sp2 (fs_rcmp K)) := by
  refine FunD.ok F sc_Ratio_compare len2 (fun cdv A outer s H vs Q E hr h => ?_)
  obtain ⟨a, b, rfl, h⟩ := h
  refine ⟨_, (pss_cons (ps_set (i := 2) sc_Ratio_compare.nd rfl (by first | exact Or.inl rfl | exact Or.inr rfl) (pe_op o_rep (pe_fld (pv 0) rfl) (pe_fld (pv 1) rfl)))
    (pss_cons (ps_set (i := 3) sc_Ratio_compare.nd rfl (by first | exact Or.inl rfl | exact Or.inr rfl) (pe_op o_rep (pe_fld (pv 1) rfl) (pe_fld (pv 0) rfl)))
    (pss_cons (ps_if (pt_cmpR o_lt (pv 2) (pv 3) (nomark _)) (pss_one (ps_ret (pe_un o_neg pe_int))) pss_nil)
    (pss_one (ps_ret (pe_ifExp (pt_cmpR o_gt (pv 2) (pv 3) (nomark _)) pe_int pe_int)))))), ?_⟩
  obtain ⟨p, r, v, w, B, rfl, rfl, ⟨t, u, h1, u0, b1, b2, e⟩, ⟨t', u', h2, u0', b1', b2', e'⟩, B0, B1, q⟩ := h
  have c1 := lt_cast u0 u0' e e'
  have c2 := lt_cast u0' u0 e' e
  walk_at "zz"
  refine z_repB b1 b2' B0 B0 (by omega) ?_
  walk_at "zz"
  refine z_repB b1' b2 B0 B0 (by omega) ?_
  walk_at "zz"
  unfold cmpQ at q
  refine z_d2 (fun c => ?_) (fun c => ?_)
  · rw [if_pos (c1.mp c)] at q
    walk_at "zz"
    exact q
  · rw [if_neg (fun z => c (c1.mpr z))] at q
    walk_at "zz"
    refine z_d2 (fun c => ?_) (fun c => ?_)
    · rw [if_pos (c2.mp c)] at q
      walk_at "zz"
      exact q
    · rw [if_neg (fun z => c (c2.mpr z))] at q
      walk_at "zz"
      exact q
theorem c_Ratio_compare (L : Lw K mg) : Met P w K mg base 1 (He.ga K "Ratio") "compare" (sp2 (fs_rcmp K)) [] := by
  obtain ⟨fd, F⟩ := L.d_Ratio_compare
  exact ⟨⟨_, fd, ["self", "other"], [], L.cl_Ratio, L.me_Ratio_compare, ok_Ratio_compare L F, F.bindsN (fun _ _ _ _ _ _ us hl => match us, hl with | [_, _], _ => rfl), .nil⟩⟩
theorem ok_RatioD_subD (L : Lw K mg) {fd : FuncData} (F : FunD K "__sub__" "Ratio.__sub__" (defArgs s_RatioD_subD) (defBody s_RatioD_subD) (defScope s_RatioD_subD) (df_RatioD_subD.dvs K) (df_RatioD_subD.kws K) (He.fAd K ("Ratio", some "__sub__")) fd) : FnOk P w K mg base (L2N.CX P w) 3 (He.fAd K ("Ratio", some "__sub__")) fd (["self", "other"] : List Str) (sp2 (fs_rsub K)) := by
  refine FunD.ok F sc_RatioD_subD len2 (fun cdv A outer s H vs Q E hr h => ?_)
  obtain ⟨a, b, rfl, h⟩ := h
  refine ⟨_, (pss_one (ps_ret (pe_mk (c_RatioD_initD (K := K) L) hr (by decide) (L2N.takes_of rfl rfl rfl rfl) (pa_cons (pe_op o_sub (pe_op o_rep (pe_fld (pv 0) rfl) (pe_fld (pv 1) rfl)) (pe_op o_rep (pe_fld (pv 1) rfl) (pe_fld (pv 0) rfl))) (pa_cons (pe_op o_rep (pe_fld (pv 0) rfl) (pe_fld (pv 1) rfl)) pa_nil))))), ?_⟩
  obtain ⟨p, r, v, w, B, rfl, rfl, ⟨t, u, h1, u0, b1, b2, e⟩, ⟨t', u', h2, u0', b1', b2', e'⟩, B0, B1, k⟩ := h
  walk_at "zz"
  refine z_repB b1 b2' B0 B0 (by omega) ?_
  walk_at "zz"
  refine z_repB b1' b2 B0 B0 (by omega) ?_
  walk_at "zz"
  refine z_repB b2 b2' B0 B0 (by omega) ?_
  walk_at "zz"
  refine u_mkV (v := v - w) (B := B + B + 1) (Int.mul_pos u0 u0') (Bits.up (b2.mul b2') (by omega)) (Bits.sub (b1.mul b2') (b1'.mul b2)) (Bits.up (b2.mul b2') (by omega)) ?_ k
  rw [Rat.intCast_sub, Rat.intCast_mul, Rat.intCast_mul, Rat.intCast_mul, e, e']
  grind
theorem c_RatioD_subD (L : Lw K mg) : Met P w K mg base 3 (He.ga K "Ratio") "__sub__" (sp2 (fs_rsub K)) [] := by
  obtain ⟨fd, F⟩ := L.d_RatioD_subD
  exact ⟨⟨_, fd, ["self", "other"], [], L.cl_Ratio, L.me_RatioD_subD, ok_RatioD_subD L F, F.bindsN (fun _ _ _ _ _ _ us hl => match us, hl with | [_, _], _ => rfl), .nil⟩⟩
end
end T

set_option maxHeartbeats 4000000
namespace T
open PySem PySem.Spec PyProof.Rows L2 Z
/-! the readings' steps, as one word: walk_at "z" (one step), "zz" (as far as it goes), "up" (a fact carried here) -/
local macro_rules | `(tactic| walk_at "up") => `(tactic| first
  | assumption
  | (refine' IsR.mono (by assumption) ?zup; case zup => walk_at "up")
  | (refine' IsE.mono (by assumption) ?zup; case zup => walk_at "up")
  | (refine' Same.at (by assumption) ?zup; case zup => walk_at "up")
  | (refine' SqL.of ?zup; case zup => walk_at "up")
  | (refine' L2.Same.seq (by assumption) ?zup; case zup => walk_at "up"))
local macro_rules | `(tactic| walk_at "z") => `(tactic| first
  | ((with_reducible refine' z_var ?zvh ?_); (case zvh => exact rfl))
  | with_reducible refine z_c ?_
  | with_reducible refine z_cons ?_
  | with_reducible refine z_nil ?_
  | with_reducible refine z_op ?_
  | with_reducible refine z_nx ?_
  | with_reducible refine z_seq ?_
  | with_reducible refine z_asg ?_
  | with_reducible refine z_asgG ?_
  | with_reducible refine z_call ?_
  | with_reducible refine z_sq0 ?_
  | with_reducible refine z_sq1 ?_
  | with_reducible refine z_ifS ?_
  | with_reducible refine z_test ?_
  | with_reducible refine z_tb ?_
  | with_reducible refine z_bl ?_
  | with_reducible refine z_blI ?_
  | with_reducible refine z_ret ?_
  | with_reducible refine z_rt ?_
  | with_reducible refine z_T ?_
  | with_reducible refine z_F ?_
  | with_reducible refine z_add ?_
  | with_reducible refine z_sub ?_
  | with_reducible refine z_neg ?_
  | with_reducible refine z_un ?_
  | with_reducible refine z_eqI ?_
  | with_reducible refine z_neI ?_
  | with_reducible refine z_lt ?_
  | with_reducible refine z_le ?_
  | with_reducible refine z_gt ?_
  | with_reducible refine z_ge ?_
  | with_reducible refine z_not ?_
  | with_reducible refine z_and ?_
  | with_reducible refine z_or ?_
  | with_reducible refine z_andV ?_
  | with_reducible refine z_orV ?_
  | with_reducible refine z_notV ?_
  | with_reducible refine z_if ?_
  | with_reducible refine z_cb ?_
  | with_reducible refine z_int1 ?_
  | with_reducible refine z_intb ?_
  | with_reducible refine z_abs ?_
  | with_reducible refine z_gcd ?_
  | with_reducible refine z_isi_ii ?_
  | with_reducible refine z_isi_ib ?_
  | with_reducible refine z_next ?_
  | with_reducible refine z_drop ?_
  | with_reducible refine z_par ?_
  | with_reducible refine z_par2 ?_
  | with_reducible refine z_tupN ?_
  | with_reducible refine z_lstN ?_
  | ((with_reducible refine' z_nt ?zl1 ?_); (case zl1 => exact Nat.le_of_ble_eq_true rfl); intro p H' hp hs he)
  | ((with_reducible refine' z_gtup ?zl1 ?zl2 ?_); (case zl1 => walk_at "up"); (case zl2 => exact rfl))
  | with_reducible refine z_bk ?_
  | with_reducible refine z_ct ?_
  | with_reducible refine z_break ?_
  | with_reducible refine z_cont ?_
  | with_reducible refine z_retN ?_
  | with_reducible refine z_nn ?_
  | with_reducible refine z_mk ?_
  | with_reducible refine z_gn ?_
  | with_reducible refine z_gcons ?_
  | with_reducible refine z_gnil ?_
  | with_reducible refine z_mt ?_
  | with_reducible refine z_mko ?_
  | with_reducible refine z_for2 ?_
  | with_reducible refine z_ownI ?_
  | ((with_reducible refine' z_lenL ?zl1 ?_); (case zl1 => walk_at "up"))
  | ((with_reducible refine' z_ixT ?zl1 ?zl2 ?_); (case zl1 => walk_at "up"); (case zl2 => exact rfl))
  | ((with_reducible refine' z_mulL ?zl1 ?zl2 ?_); (case zl1 => omega); (case zl2 => omega))
  | ((with_reducible refine' z_mulR ?zl1 ?zl2 ?_); (case zl1 => omega); (case zl2 => omega))
  | ((with_reducible refine' z_divS ?zl1 ?zl2 ?_); (case zl1 => omega); (case zl2 => omega))
  | ((with_reducible refine' z_mulW ?zl1 ?zl2 ?zl3 ?zl4 ?_); (case zl1 => omega); (case zl2 => omega); (case zl3 => omega); (case zl4 => omega))
  | ((with_reducible refine' z_divW ?zl1 ?zl2 ?_); (case zl1 => omega); (case zl2 => omega)))
local macro_rules | `(tactic| walk_at "zz") => `(tactic| repeat (walk_at "z"))
local macro_rules | `(tactic| walk_at "z") => `(tactic| with_reducible refine z_lstN ?_)
local macro_rules | `(tactic| walk_at "z") => `(tactic| with_reducible refine z_p6 ?_)
local macro_rules | `(tactic| walk_at "z") => `(tactic| with_reducible refine z_p12 ?_)
local macro_rules | `(tactic| walk_at "z") => `(tactic| with_reducible refine z_p13 ?_)
local macro_rules | `(tactic| walk_at "z") => `(tactic| with_reducible refine z_calln ?_)
local macro_rules | `(tactic| walk_at "z") => `(tactic| with_reducible refine z_xfS ?_)
local macro_rules | `(tactic| walk_at "z") => `(tactic| with_reducible refine z_lcS ?_)
local macro_rules | `(tactic| walk_at "z") => `(tactic| with_reducible refine z_lcRS ?_)
local macro_rules | `(tactic| walk_at "z") => `(tactic| with_reducible refine z_lcZS ?_)
local macro_rules | `(tactic| walk_at "z") => `(tactic| with_reducible refine z_foS ?_)
local macro_rules | `(tactic| walk_at "z") => `(tactic| with_reducible refine z_for1 ?_)
local macro_rules | `(tactic| walk_at "z") => `(tactic| with_reducible refine z_tsl ?_)
local macro_rules | `(tactic| walk_at "z") => `(tactic| with_reducible refine z_np ?_)
local macro_rules | `(tactic| walk_at "z") => `(tactic| with_reducible refine z_pt ?_)
local macro_rules | `(tactic| walk_at "z") => `(tactic| with_reducible refine z_pti ?_)
local macro_rules | `(tactic| walk_at "z") => `(tactic| with_reducible refine z_catI ?_)
local macro_rules | `(tactic| walk_at "z") => `(tactic| with_reducible refine z_isNI ?_)
local macro_rules | `(tactic| walk_at "z") => `(tactic| with_reducible refine z_isNN ?_)
local macro_rules | `(tactic| walk_at "z") => `(tactic| with_reducible refine z_notNI ?_)
local macro_rules | `(tactic| walk_at "z") => `(tactic| with_reducible refine z_notNN ?_)
local macro_rules | `(tactic| walk_at "z") => `(tactic| with_reducible refine z_gsub ?_)
local macro_rules | `(tactic| walk_at "z") => `(tactic| with_reducible refine z_isNb ?_)
local macro_rules | `(tactic| walk_at "z") => `(tactic| with_reducible refine z_notNb ?_)
local macro_rules | `(tactic| walk_at "z") => `(tactic| ((with_reducible refine' z_nlR ?zl1 ?_); (case zl1 => exact Nat.le_of_ble_eq_true rfl); intro p H' hp hs he))
local macro_rules | `(tactic| walk_at "z") => `(tactic| ((with_reducible refine' z_repR ?zl1 ?zl2 ?_); (case zl1 => omega); (case zl2 => omega)))
local macro_rules | `(tactic| walk_at "z") => `(tactic| ((with_reducible refine' z_repL ?zl1 ?zl2 ?_); (case zl1 => omega); (case zl2 => omega)))
local macro_rules | `(tactic| walk_at "z") => `(tactic| ((with_reducible refine' z_lenLst ?zl1 ?_); (case zl1 => walk_at "up")))
local macro_rules | `(tactic| walk_at "z") => `(tactic| ((with_reducible refine' z_cat ?zl1 ?zl2 ?zl3 ?_); (case zl1 => walk_at "up"); (case zl2 => walk_at "up"); (case zl3 => (simp only [List.length_map, List.length_cons, List.length_nil, List.length_append, List.length_replicate]; omega)); intro p H' hp hs he))
local macro_rules | `(tactic| walk_at "z") => `(tactic| with_reducible refine z_sfl ?_)
local macro_rules | `(tactic| walk_at "z") => `(tactic| with_reducible refine z_lcES ?_)
local macro_rules | `(tactic| walk_at "z") => `(tactic| with_reducible refine z_lcMS ?_)
local macro_rules | `(tactic| walk_at "z") => `(tactic| with_reducible refine z_foES ?_)
local macro_rules | `(tactic| walk_at "z") => `(tactic| with_reducible refine z_fo3S ?_)
local macro_rules | `(tactic| walk_at "z") => `(tactic| with_reducible refine z_sta ?_)
local macro_rules | `(tactic| walk_at "z") => `(tactic| with_reducible refine z_sta1 ?_)
local macro_rules | `(tactic| walk_at "z") => `(tactic| ((with_reducible refine' z_fldt ?zc1 ?zc2 ?zl1 ?zl2 ?_); (case zc1 => exact Lw.cl_Ratio (by assumption)); (case zc2 => exact Lw.na_Ratio_top (by assumption)); (case zl1 => exact rfl); (case zl2 => walk_at "up")))
local macro_rules | `(tactic| walk_at "z") => `(tactic| ((with_reducible refine' z_fldb ?zc1 ?zc2 ?zl1 ?zl2 ?_); (case zc1 => exact Lw.cl_Ratio (by assumption)); (case zc2 => exact Lw.na_Ratio_bottom (by assumption)); (case zl1 => exact rfl); (case zl2 => walk_at "up")))
theorem same30e {H H1 H2 : Hp} (h : Same H1 H2) (e : Same H H1) : Same H H2 := e.trans h
local macro_rules | `(tactic| walk_at "sm") => `(tactic| first
  | assumption
  | exact fun _ _ h => h
  | (refine' same30e (by assumption) ?zsm; case zsm => walk_at "sm"))

open S31 (cf)
open S30
theorem lkO {u v w : V} : [(("numbers" : Str), u), ("over", v), ("degree", w)].lookup ("over" : Str) = some v := lkB (by decide +kernel) lkA
theorem lkD {u v w : V} : [(("numbers" : Str), u), ("over", v), ("degree", w)].lookup ("degree" : Str) = some w := lkB (by decide +kernel) (lkB (by decide +kernel) lkA)
/-- a Poly of n numbers, of the values P -/
def PQ (K : Frag) (H : Hp) (p : Addr) (n N : Nat) (P : Rat → Rat) : Prop := ∃ (ls : List Int) (o : Int), IsQ K H p ls o ∧ ls.length = n ∧ 0 < o ∧ Bits N o ∧ (∀ k, Bits N (cf ls k)) ∧ (∀ m, n = m + 1 → cf ls m ≠ 0) ∧ ∀ x, E (cr ls o) x n = P x
theorem PQ.mono {K : Frag} {H H' : Hp} {p : Addr} {n N : Nat} {P : Rat → Rat} (s : Same H H') (h : PQ K H p n N P) : PQ K H' p n N P := by
  obtain ⟨ls, o, h1, h⟩ := h
  exact ⟨ls, o, h1.mono s, h⟩
theorem PQ.of {K : Frag} {H : Hp} {p : Addr} {ns ls : List Int} {o o' : Int} {n N : Nat} {P : Rat → Rat} (h : IsQ K H p ls o') (lw : LowT ns o ls o') (ho : 0 < o) (hn : ns.length = n) (b1 : Bits N o) (b2 : ∀ k, Bits N (cf ns k)) (ht : ∀ m, n = m + 1 → cf ns m ≠ 0) (e : ∀ x, E (cr ns o) x n = P x) : PQ K H p n N P := by
  have hl : ls.length = n := by
    cases n with
    | zero => have := lw.len; omega
    | succ m => exact lw.full hn (ht m rfl)
  exact ⟨ls, o', h, hl, lw.pos ho, b1.le lw.over, fun k => (b2 k).le (lw.abs k), fun m hm => lw.top m (by omega), fun x => by rw [lw.cr ho]; exact e x⟩
theorem at_last {ns : List Int} {m : Nat} (h : ns.length = m + 1) : atI (ns.map V.int) (-1) = some (.int (cf ns m)) := by
  have e : ns = ns.take m ++ [cf ns m] := by
    refine List.ext_getElem (by simp; omega) (fun k h1 h2 => ?_)
    rw [List.getElem_append]
    split
    · rw [List.getElem_take]
    · rename_i c
      have : k = m := by
        rw [List.length_take] at c
        omega
      subst this
      simp [S31.cf_in h1]
  have e2 : ns.map V.int = (ns.take m).map V.int ++ [V.int (cf ns m)] := by
    have := congrArg (List.map V.int) e
    rw [List.map_append] at this
    exact this
  rw [e2]
  exact atI_last _ _
theorem sft_bits {N B j : Nat} {m m' : Nat → Int} {t : Int} (ht : Bits B t) (h : Bits (N + (B + 1) * j) (m' 1)) (h0 : Bits N (m 0)) : Bits (N + (B + 1) * (j + 1)) (m 0 + t * m' 1) := by
  have e : N + (B + 1) * (j + 1) = N + (B + 1) * j + B + 1 := by rw [Nat.mul_succ]; omega
  rw [e]
  exact Bits.add (h0.up (by omega)) (Bits.up (ht.mul h) (by omega))
theorem cast_pow (b : Int) : ∀ k : Nat, ((b ^ k : Int) : Rat) = (b : Rat) ^ k
  | 0 => by rw [Int.pow_zero, Rat.pow_zero]; rfl
  | k + 1 => by rw [Int.pow_succ, Rat.pow_succ, Rat.intCast_mul, cast_pow b k]
theorem Bits.pow {b : Int} {B : Nat} (h : Bits B b) : ∀ k : Nat, Bits (B * k + 1) (b ^ k)
  | 0 => Bits.small (n := 1) (by rw [Int.pow_zero]; decide) (by rw [Int.pow_zero]; decide)
  | k + 1 => by
    rw [Int.pow_succ]
    exact Bits.up (Bits.mul (Bits.pow h k) h) (by rw [Nat.mul_succ]; omega)
theorem bits_lt {b : Int} {B : Nat} (h : Bits B b) (hB : B ≤ 64) : -18446744073709551616 < b ∧ b < 18446744073709551616 := by
  have h2 : Bits 64 b := h.up hB
  unfold Bits at h2
  rw [show (2 : Nat) ^ 64 = 18446744073709551616 from by decide] at h2
  omega
/-- the numbers turned by the powers of the bottom -/
theorem E_shift {ls m : List Int} {o t b : Int} {d : Nat} (ho : 0 < o) (hb : 0 < b) (hm : ∀ z : Rat, E (fun k => (cf m k : Rat)) z (d + 1) = E (fun k => (cf ls k : Rat) * (b : Rat) ^ (d - k)) ((t : Rat) + z) (d + 1)) {ns : List Int} {x : Rat}
    (hn : ∀ k, k ≤ d → cf ns k = cf m k * b ^ k) : E (cr ns (o * b ^ d)) x (d + 1) = E (cr ls o) ((t : Rat) / b + x) (d + 1) := by
  have b0 := ne_cast (show b ≠ 0 by omega)
  have o0 := ne_cast (show o ≠ 0 by omega)
  have bd : (b : Rat) ^ d ≠ 0 := by
    have := S31.pow_pos' (x := (b : Rat)) (by exact_mod_cast hb) d
    grind
  have e1 : E (cr ns (o * b ^ d)) x (d + 1) = 1 / ((o : Rat) * (b : Rat) ^ d) * E (fun k => (cf m k : Rat) * (b : Rat) ^ k) x (d + 1) := by
    rw [← E_smul]
    refine E_congr' fun k hk => ?_
    show (cf ns k : Rat) / ((o * b ^ d : Int) : Rat) = _
    rw [hn k (by omega), Rat.intCast_mul, Rat.intCast_mul, cast_pow, cast_pow]
    grind
  have e2 : E (cr ls o) ((t : Rat) / b + x) (d + 1) = 1 / (o : Rat) * E (fun k => (cf ls k : Rat)) ((t : Rat) / b + x) (d + 1) := by
    rw [← E_smul]
    refine E_congr' fun k hk => ?_
    show (cf ls k : Rat) / (o : Rat) = _
    grind
  have e3 := E_rev (f := fun k => (cf ls k : Rat)) (B := (b : Rat)) (y := (t : Rat) / b + x) (d := d) (N := d + 1) (Nat.le_refl _)
  have e4 : (b : Rat) * ((t : Rat) / b + x) = (t : Rat) + (b : Rat) * x := by grind
  rw [e4] at e3
  rw [e1, E_scale (f := fun k => (cf m k : Rat)), hm, e3, e2]
  grind
def ic (ns : List Int) : Sq := fun k => (cf ns k : Rat)
theorem map_at {ls : List Int} {j : Nat} {x : V} (h : (ls.map V.int)[j]? = some x) : j < ls.length ∧ V.int (cf ls j) = x := by
  rw [List.getElem?_map] at h
  obtain ⟨y, hy, e⟩ := Option.map_eq_some_iff.mp h
  refine ⟨(List.getElem?_eq_some_iff.mp hy).1, ?_⟩
  have ey : cf ls j = y := by
    unfold cf
    rw [List.getD_eq_getElem?_getD, hy]
    rfl
  rw [ey]
  exact e
theorem range_ints {n : Nat} (f : Nat → Int) : ∃ ns : List Int, (List.range n).map (fun j => V.int (f j)) = ns.map V.int ∧ ns.length = n ∧ ∀ k, k < n → cf ns k = f k :=
  ⟨(List.range n).map f, by rw [List.map_map]; rfl, by simp, fun k hk => by rw [S31.cf_in (by simpa using hk)]; simp⟩
theorem z_repU {i j : Int} {a b : Nat} {H : Hp} {Q : VK} (ha : Bits a i) (hb : Bits b j) (h : a + b ≤ 900000) (q : Q (.int (i * j)) H) : zRep (.int i) (.int j) H Q := z_repB (ha.up (Nat.le_succ a)) (hb.up (Nat.le_succ b)) (Nat.succ_pos a) (Nat.succ_pos b) (by omega) q
theorem cf_set {xs : List Int} {i : Nat} {v : Int} (h : i < xs.length) (k : Nat) : S31.cf (xs.set i v) k = if k = i then v else S31.cf xs k := by
  unfold S31.cf
  rw [List.getD_eq_getElem?_getD, List.getElem?_set]
  by_cases e : k = i
  · subst e
    simp [h]
  · rw [if_neg (Ne.symm e), if_neg e, List.getD_eq_getElem?_getD]
def fs_sft (K : Frag) : F2 := fun a c H Q _ => ∃ (p r : Addr) (n N : Nat) (P : Rat → Rat) (v : Rat), a = .ref p ∧ c = .ref r ∧ PQ K H p n N P ∧ n ≤ 13 ∧ N ≤ 1000 ∧ IsV K H r v 30 ∧ ∀ x H', Same H H' → PQ K H' x n (N + 6000) (fun x => P (v + x)) → Q (.ref x) H'
local macro_rules | `(tactic| walk_at "z") => `(tactic| ((with_reducible refine' z_fldG ?zc1 ?zc2 ?zl0 ?zl1 ?zl2 ?_); (case zc1 => exact Lw.cl_Poly (by assumption)); (case zc2 => exact Lw.na_Poly_numbers (by assumption)); (case zl0 => exact rfl); (case zl1 => walk_at "up"); (case zl2 => exact lkA)))
local macro_rules | `(tactic| walk_at "z") => `(tactic| ((with_reducible refine' z_fldG ?zc1 ?zc2 ?zl0 ?zl1 ?zl2 ?_); (case zc1 => exact Lw.cl_Poly (by assumption)); (case zc2 => exact Lw.na_Poly_over (by assumption)); (case zl0 => exact rfl); (case zl1 => walk_at "up"); (case zl2 => exact lkO)))
local macro_rules | `(tactic| walk_at "z") => `(tactic| ((with_reducible refine' z_fldG ?zc1 ?zc2 ?zl0 ?zl1 ?zl2 ?_); (case zc1 => exact Lw.cl_Poly (by assumption)); (case zc2 => exact Lw.na_Poly_degree (by assumption)); (case zl0 => exact rfl); (case zl1 => walk_at "up"); (case zl2 => exact lkD)))
local macro_rules | `(tactic| walk_at "up") => `(tactic| first
  | assumption
  | (with_reducible refine' IsR.mono (by assumption) ?zup; case zup => walk_at "up")
  | (with_reducible refine' IsV.mono (by assumption) ?zup; case zup => walk_at "up")
  | (with_reducible refine' IsQ.mono (by assumption) ?zup; case zup => walk_at "up")
  | (with_reducible refine' PQ.mono (by assumption) ?zup; case zup => walk_at "up")
  | (with_reducible refine' Same.at (by assumption) ?zup; case zup => walk_at "up")
  | fail)
section
variable {P : Program} {w : World} {K : Frag} {mg : Str → Option Value} {base : Heap}
theorem ok_Poly_shifted (L : Lw K mg) {fd : FuncData} (F : FunD K "shifted" "Poly.shifted" (defArgs s_Poly_shifted) (defBody s_Poly_shifted) (defScope s_Poly_shifted) (df_Poly_shifted.dvs K) (df_Poly_shifted.kws K) (He.fAd K ("Poly", some "shifted")) fd) : FnOk P w K mg base (L2N.CX P w) 7 (He.fAd K ("Poly", some "shifted")) fd (["self", "ratio"] : List Str) (sp2 (fs_sft K)) := by
  refine FunD.ok F sc_Poly_shifted len2 (fun cdv A outer s H vs Q E hr h => ?_)
  obtain ⟨a, b, rfl, h⟩ := h
  refine ⟨_, (pss_cons (ps_set (i := 2) sc_Poly_shifted.nd rfl (by first | exact Or.inl rfl | exact Or.inr rfl) (pe_c (c_power_row (K := K) L) hr (by decide) (L2N.takes_of rfl rfl rfl rfl) (pa_cons (pe_fld (pv 1) rfl) (pa_cons (pe_fld (pv 0) rfl) pa_nil))))
    (pss_cons (ps_setLc (i := 3) (own := [("k", 4), ("number", 5)]) (g := (gTup K 2 (gCons (gName 4) (gCons (gName 5) gNil)))) (tt := tYes) rfl sc_Poly_shifted.nd rfl rfl (sw_true rfl rfl rfl (by decide +kernel)) (piK (fun K => iEnumM K _) (K := K) rfl (pi_enumM (by rfl) L.f_enumerate (pa_cons (pe_fld (pv 0) rfl) pa_nil))) (blkOk_by (N := ["self", "ratio", "powers", "moved", "k", "number", "least"]) (sc := defScope s_Poly_shifted) (by decide +kernel)) (fun _ _ _ _ _ => pgK (fun K => gTup K 2 (gCons (gName 4) (gCons (gName 5) gNil))) (K := K) rfl (pg_tup rfl (pgs_cons (pg_name (i := 4) sc_Poly_shifted.nd rfl (Or.inl rfl)) (pgs_cons (pg_name (i := 5) sc_Poly_shifted.nd rfl (Or.inl rfl)) pgs_nil)))) (fun _ _ _ _ _ => pts_nil) (fun _ _ _ _ _ => (pe_op o_rep (pv 5) (pe_ix (ix_seqK (K := K) rfl) (pv 2) (pe_op o_sub (pe_fldK (K := K) rfl (pv 0) rfl) (pv 4)) (fun _ _ => rfl)))))
    (pss_cons (ps_for (passes_of rfl) rfl (pi_range1 (by rfl) L.f_range (pa_cons (pe_fld (pv 0) rfl) pa_nil)) (pg_name (i := 6) sc_Poly_shifted.nd rfl (by first | exact Or.inl rfl | exact Or.inr rfl)) (pss_one (ps_for (passes_of rfl) rfl (pi_range3 (by rfl) L.f_range (pa_cons (pe_op o_sub (pe_fld (pv 0) rfl) pe_int) (pa_cons (pe_op o_sub (pv 6) pe_int) (pa_cons (pe_un o_neg pe_int) pa_nil)))) (pg_name (i := 4) sc_Poly_shifted.nd rfl (by first | exact Or.inl rfl | exact Or.inr rfl)) (pss_one (ps_asg (pe_op o_cat (pe_ix (ix_seqK (K := K) rfl) (pv 3) (pv 4) (fun _ _ => rfl)) (pe_op o_rep (pe_fld (pv 1) rfl) (pe_ix (ix_seqK (K := K) rfl) (pv 3) (pe_op o_cat (pv 4) pe_int) (fun _ _ => rfl)))) (pg_sub (pv 3) (pv 4) set_list))))))
    (pss_one (ps_ret (pe_sm (c_Poly_made (K := K) L) hr (by decide) (L2N.takes_of rfl rfl rfl rfl) (pe_cls L.g_Poly) (pa_cons (pe_lc (own := [("k", 4), ("number", 5)]) (g := (gTup K 2 (gCons (gName 4) (gCons (gName 5) gNil)))) (tt := tYes) rfl sc_Poly_shifted.nd (piK (fun K => iEnumM K _) (K := K) rfl (pi_enumM (by rfl) L.f_enumerate (pa_cons (pv 3) pa_nil))) (blkOk_by (N := ["self", "ratio", "powers", "moved", "k", "number", "least"]) (sc := defScope s_Poly_shifted) (by decide +kernel)) (fun _ _ _ _ _ => pgK (fun K => gTup K 2 (gCons (gName 4) (gCons (gName 5) gNil))) (K := K) rfl (pg_tup rfl (pgs_cons (pg_name (i := 4) sc_Poly_shifted.nd rfl (Or.inl rfl)) (pgs_cons (pg_name (i := 5) sc_Poly_shifted.nd rfl (Or.inl rfl)) pgs_nil)))) (fun _ _ _ _ _ => pts_nil) (fun _ _ _ _ _ => (pe_op o_rep (pv 5) (pe_ix (ix_seqK (K := K) rfl) (pv 2) (pv 4) (fun _ _ => rfl))))) (pa_cons (pe_op o_rep (pe_fld (pv 0) rfl) (pe_ix (ix_seqK (K := K) rfl) (pv 2) (pe_un o_neg pe_int) (fun _ _ => rfl))) pa_nil)))))))), ?_⟩
  obtain ⟨p, r, n, N, P, v, rfl, rfl, ⟨ls, o, ⟨dx, tu, hp, htu⟩, hl, o0, bo, bl, ht, hP⟩, n13, hN, ⟨t, b, hr, b0, bt, bb, ev⟩, k⟩ := h
  obtain ⟨b1, b2⟩ := bits_lt bb (by decide)
  walk_at "zz"
  refine u_prow b1 b2 (by omega) (by omega) (fun pw H1 ps hpw s1 epw lps cps => ?_)
  walk_at "zz"
  rw [hl] at lps cps
  have lps' : ps.length = n - 1 + 1 := by omega
  have cps' : ∀ k, k ≤ n - 1 → cf ps k = b ^ k := fun k hk => cps k (by omega)
  refine z_lcE (k := true) (xs := ls.map V.int) (fun j => V.int (cf ls j * b ^ (n - 1 - j))) (fun H' s => SqK.T (s _ _ (s1 _ _ htu))) (by rw [List.length_map]; omega) (fun j x H2 N2 hx s2 c => ⟨rfl, ?_⟩) (fun D HD hD sD hlD => ?_)
  · obtain ⟨hj, rfl⟩ := map_at hx
    walk_at "zz"
    refine z_ixcf (j := n - 1 - j) (by walk_at "up") (by omega) (by omega) ?_
    rw [cps' _ (by omega)]
    refine z_repU (bl j) (Bits.pow bb (n - 1 - j)) (by omega) ?_
    exact c _ (fun _ _ h => h)
  rw [List.length_map, hl] at hlD
  obtain ⟨m0, em0, lm0, cm0⟩ := range_ints (n := n) fun j => cf ls j * b ^ (n - 1 - j)
  rw [em0] at hlD
  have bm0 : ∀ k, Bits (N + 400) (cf m0 k) := fun k => by
    by_cases c : k < n
    · rw [cm0 k c]
      exact Bits.up ((bl k).mul (Bits.pow bb (n - 1 - k))) (by omega)
    · rw [S31.cf_out (by omega)]
      exact Bits.zero
  have hD0 : H D = none := Same.none s1 hD
  walk_at "zz"
  refine z_foR (by omega) (by omega) (fun l σ' H' => ∃ (ms : List Int) (x4 x5 x6 : Option V), σ' = [some (.ref p), some (.ref r), some (.ref pw), some (.ref D), x4, x5, x6] ∧ Same H1 H' ∧ H' D = some (.lst (ms.map V.int)) ∧ ms.length = n ∧
    (∀ z : Rat, Mix (ic ms) z ((t : Rat) + z) l n = S30.E (ic m0) ((t : Rat) + z) n) ∧ cf ms (n - 1) = cf m0 (n - 1) ∧ ∀ k, Bits (N + 400 + 400 * l) (cf ms k)) ⟨m0, _, _, _, rfl, sD, hlD, lm0, fun z => mix_0, rfl, bm0⟩ ?_ ?_
  · rintro l σ' H' hl' ⟨ms, x4, x5, x6, rfl, sH, hq, lms, hmix, htop, hbits⟩
    have l1 : l < n - 1 := by omega
    walk_at "zz"
    refine z_fo3 (n := n - 1 - l) (cast (by congr 1; omega) (RgC.neg (i := (ls.length : Int) - 1 - 1) (j := (l : Int) - 1) (by omega) (by omega) (by omega) (by omega))) (fun i σ' H' => ∃ (ns : List Int) (x4 x5 : Option V), σ' = [some (.ref p), some (.ref r), some (.ref pw), some (.ref D), x4, x5, some (.int l)] ∧ Same H1 H' ∧ H' D = some (.lst (ns.map V.int)) ∧ ns.length = n ∧
      (∀ j, j < n - 1 - i ∨ n - 1 ≤ j → cf ns j = cf ms j) ∧ (∀ j, n - 1 - i ≤ j → j < n - 1 → cf ns j = cf ms j + t * cf ns (j + 1)) ∧ ∀ k, Bits (N + 400 + 400 * l + 31 * i) (cf ns k)) ⟨ms, _, _, rfl, sH, hq, lms, fun _ _ => rfl, fun j h1 h2 => by omega, hbits⟩ ?_ ?_
    · rintro i σ' H' hi ⟨ns, x4, x5, rfl, sH, hq, lns, c1, c2, c3⟩
      have ei : (ls.length : Int) - 1 - 1 + (i : Nat) * (-1 : Int) = ((n - 1 - 1 - i : Nat) : Int) := by omega
      rw [ei]
      have c30 := Bits.add (Bits.up (hbits (n - 1 - 1 - i)) (show _ ≤ 30 + (N + 400 + 400 * l + 31 * i) by omega)) (bt.mul (c3 (n - 1 - 1 - i + 1)))
      walk_at "zz"
      refine z_ixcf (j := n - 1 - 1 - i) hq rfl (by omega) ?_
      walk_at "zz"
      refine z_ixcf (j := n - 1 - 1 - i + 1) hq (by omega) (by omega) ?_
      refine z_repU bt (c3 _) (by omega) ?_
      walk_at "zz"
      refine z_setL (j := n - 1 - 1 - i) hq rfl (by rw [List.length_map]; omega) ?_
      rw [set_int]
      refine ⟨_, _, _, rfl, Same.put sH hD, upd_same, by rw [List.length_set]; exact lns, fun j hj => ?_, fun j h1 h2 => ?_, fun k => ?_⟩
      · rw [cf_set (by omega), if_neg (by omega)]
        exact c1 j (by omega)
      · rw [cf_set (by omega), cf_set (by omega)]
        by_cases e : j = n - 1 - 1 - i
        · rw [if_pos e, if_neg (by omega), c1 (n - 1 - 1 - i) (by omega), e]
        · rw [if_neg e, if_neg (by omega)]
          exact c2 j (by omega) h2
      · rw [cf_set (by omega)]
        split
        · rw [c1 (n - 1 - 1 - i) (by omega)]
          exact Bits.up c30 (by omega)
        · exact Bits.up (c3 k) (by omega)
    · rintro σ' H' ⟨ns, x4, x5, rfl, sH, hq, lns, c1, c2, c3⟩
      refine ⟨ns, _, _, _, rfl, sH, hq, lns, fun z => ?_, by rw [c1 (n - 1) (by omega)]; exact htop, fun k => Bits.up (c3 k) (by omega)⟩
      rw [← hmix z]
      have en : n = n - 1 + 1 := by omega
      rw [en]
      refine mix_step (m := ic ms) (m' := ic ns) (t := (t : Rat)) (l := l) (d := n - 1) l1 (fun k hk => ?_) ?_ (fun k h1 h2 => ?_)
      · show (cf ns k : Rat) = (cf ms k : Rat)
        rw [c1 k (by omega)]
      · show (cf ns (n - 1) : Rat) = (cf ms (n - 1) : Rat)
        rw [c1 (n - 1) (by omega)]
      · show (cf ns k : Rat) = (cf ms k : Rat) + (t : Rat) * (cf ns (k + 1) : Rat)
        rw [c2 k (by omega) h2, Rat.intCast_add, Rat.intCast_mul]
  · rintro σ' H' ⟨ms, x4, x5, x6, rfl, sH, hq, lms, hmix, htop, hbits⟩
    have ln : (((ls.length : Nat) : Int) - 1).toNat = n - 1 := by omega
    rw [ln] at hmix hbits
    walk_at "zz"
    refine z_lcE (k := false) (xs := ms.map V.int) (fun j => V.int (cf ms j * b ^ j)) (fun H' s => SqK.L (s _ _ hq)) (by rw [List.length_map]; omega) (fun j x H2 N2 hx s2 c => ⟨rfl, ?_⟩) (fun D2 HD2 hD2 sD2 hlD2 => ?_)
    · obtain ⟨hj, rfl⟩ := map_at hx
      walk_at "zz"
      refine z_ixcf (j := j) (by walk_at "up") rfl (by omega) ?_
      rw [cps' _ (by omega)]
      refine z_repU (hbits j) (Bits.pow bb j) (by omega) ?_
      exact c _ (fun _ _ h => h)
    rw [List.length_map, lms] at hlD2
    obtain ⟨ns, ens, lns, cns⟩ := range_ints (n := n) fun j => cf ms j * b ^ j
    rw [ens] at hlD2
    walk_at "zz"
    refine z_ixL (SqL.of (sD2 _ _ (sH _ _ epw))) (at_last lps') ?_
    rw [cps' _ (Nat.le_refl _)]
    refine z_repU bo (Bits.pow bb (n - 1)) (by omega) ?_
    have op : 0 < o * b ^ (n - 1) := Int.mul_pos o0 (Int.pow_pos b0)
    walk_at "zz"
    refine u_made hlD2 (by omega) (by omega) (Bits.up (bo.mul (Bits.pow bb (n - 1))) (by omega)) (fun x H3 ls' o' s3 hx lw => ?_)
    refine k x H3 (((s1.trans sH).trans sD2).trans s3) (PQ.of hx lw op lns (Bits.up (bo.mul (Bits.pow bb (n - 1))) (by omega)) (fun k => ?_) (fun m hm => ?_) (fun x => ?_))
    · by_cases c : k < n
      · rw [cns k c]
        exact Bits.up ((hbits k).mul (Bits.pow bb k)) (by omega)
      · rw [S31.cf_out (by omega)]
        exact Bits.zero
    · have e1 : n - 1 = m := by omega
      rw [cns m (by omega), ← e1, htop, cm0 _ (by omega), Nat.sub_self, Int.pow_zero, Int.mul_one, e1]
      exact Int.mul_ne_zero (ht m hm) (by
        have q : 0 < b ^ m := Int.pow_pos b0
        omega)
    · have vb : v = (t : Rat) / b := by
        have := ne_cast (show b ≠ 0 by omega)
        rw [ev]
        grind
      rw [vb, ← hP]
      cases n with
      | zero => rfl
      | succ d =>
        rw [Nat.add_sub_cancel] at *
        refine E_shift (m := ms) o0 b0 (fun z => ?_) (fun k hk => cns k (by omega))
        have := hmix z
        rw [mix_d] at this
        refine this.trans (E_congr' fun k hk => ?_)
        show (cf m0 k : Rat) = _
        rw [cm0 k hk, Rat.intCast_mul, cast_pow]
theorem c_Poly_shifted (L : Lw K mg) : Met P w K mg base 7 (He.ga K "Poly") "shifted" (sp2 (fs_sft K)) [] := by
  obtain ⟨fd, F⟩ := L.d_Poly_shifted
  exact ⟨⟨_, fd, ["self", "ratio"], [], L.cl_Poly, L.me_Poly_shifted, ok_Poly_shifted L F, F.bindsN (fun _ _ _ _ _ _ us hl => match us, hl with | [_, _], _ => rfl), .nil⟩⟩
end
theorem E_str {ls ns : List Int} {o t b : Int} {d : Nat} (ho : 0 < o) (hb : 0 < b) {x : Rat} (hn : ∀ k, k ≤ d → cf ns k = cf ls k * t ^ k * b ^ (d - k)) : S30.E (cr ns (o * b ^ d)) x (d + 1) = S30.E (cr ls o) ((t : Rat) / b * x) (d + 1) := by
  have b0 := ne_cast (show b ≠ 0 by omega)
  have o0 := ne_cast (show o ≠ 0 by omega)
  have bd : (b : Rat) ^ d ≠ 0 := by
    have := S31.pow_pos' (x := (b : Rat)) (by exact_mod_cast hb) d
    grind
  have e3 := E_rev (f := fun k => (cf ls k : Rat) * (t : Rat) ^ k) (B := (b : Rat)) (y := x / b) (d := d) (N := d + 1) (Nat.le_refl _)
  have e4 : (b : Rat) * (x / b) = x := by grind
  rw [e4, E_scale (f := fun k => (cf ls k : Rat))] at e3
  have e5 : (t : Rat) / b * x = (t : Rat) * (x / b) := by grind
  have e1 : S30.E (cr ns (o * b ^ d)) x (d + 1) = 1 / ((o : Rat) * (b : Rat) ^ d) * S30.E (fun k => (cf ls k : Rat) * (t : Rat) ^ k * (b : Rat) ^ (d - k)) x (d + 1) := by
    rw [← E_smul]
    refine E_congr' fun k hk => ?_
    show (cf ns k : Rat) / ((o * b ^ d : Int) : Rat) = _
    rw [hn k (by omega), Rat.intCast_mul, Rat.intCast_mul, Rat.intCast_mul, cast_pow, cast_pow, cast_pow]
    grind
  have e2 : S30.E (cr ls o) ((t : Rat) * (x / b)) (d + 1) = 1 / (o : Rat) * S30.E (fun k => (cf ls k : Rat)) ((t : Rat) * (x / b)) (d + 1) := by
    rw [← E_smul]
    refine E_congr' fun k hk => ?_
    show (cf ls k : Rat) / (o : Rat) = _
    grind
  rw [e1, e3, e5, e2]
  grind
def fs_str (K : Frag) : F2 := fun a c H Q _ => ∃ (p r : Addr) (n N : Nat) (P : Rat → Rat) (v : Rat), a = .ref p ∧ c = .ref r ∧ PQ K H p n N P ∧ n ≤ 13 ∧ N ≤ 7500 ∧ IsV K H r v 30 ∧ v ≠ 0 ∧ ∀ x H', Same H H' → PQ K H' x n (N + 1000) (fun x => P (v * x)) → Q (.ref x) H'
section
variable {P : Program} {w : World} {K : Frag} {mg : Str → Option Value} {base : Heap}
theorem ok_Poly_stretched (L : Lw K mg) {fd : FuncData} (F : FunD K "stretched" "Poly.stretched" (defArgs s_Poly_stretched) (defBody s_Poly_stretched) (defScope s_Poly_stretched) (df_Poly_stretched.dvs K) (df_Poly_stretched.kws K) (He.fAd K ("Poly", some "stretched")) fd) : FnOk P w K mg base (L2N.CX P w) 7 (He.fAd K ("Poly", some "stretched")) fd (["self", "ratio"] : List Str) (sp2 (fs_str K)) := by
  refine FunD.ok F sc_Poly_stretched len2 (fun cdv A outer s H vs Q E hr h => ?_)
  obtain ⟨a, b, rfl, h⟩ := h
  refine ⟨_, (pss_cons (ps_set (i := 2) sc_Poly_stretched.nd rfl (by first | exact Or.inl rfl | exact Or.inr rfl) (pe_c (c_power_row (K := K) L) hr (by decide) (L2N.takes_of rfl rfl rfl rfl) (pa_cons (pe_fld (pv 1) rfl) (pa_cons (pe_fld (pv 0) rfl) pa_nil))))
    (pss_cons (ps_set (i := 3) sc_Poly_stretched.nd rfl (by first | exact Or.inl rfl | exact Or.inr rfl) (pe_c (c_power_row (K := K) L) hr (by decide) (L2N.takes_of rfl rfl rfl rfl) (pa_cons (pe_fld (pv 1) rfl) (pa_cons (pe_fld (pv 0) rfl) pa_nil))))
    (pss_cons (ps_setLc (i := 4) (own := [("k", 5), ("number", 6)]) (g := (gTup K 2 (gCons (gName 5) (gCons (gName 6) gNil)))) (tt := tYes) rfl sc_Poly_stretched.nd rfl rfl (sw_true rfl rfl rfl (by decide +kernel)) (piK (fun K => iEnumM K _) (K := K) rfl (pi_enumM (by rfl) L.f_enumerate (pa_cons (pe_fld (pv 0) rfl) pa_nil))) (blkOk_by (N := ["self", "ratio", "tops", "bottoms", "found", "k", "number"]) (sc := defScope s_Poly_stretched) (by decide +kernel)) (fun _ _ _ _ _ => pgK (fun K => gTup K 2 (gCons (gName 5) (gCons (gName 6) gNil))) (K := K) rfl (pg_tup rfl (pgs_cons (pg_name (i := 5) sc_Poly_stretched.nd rfl (Or.inl rfl)) (pgs_cons (pg_name (i := 6) sc_Poly_stretched.nd rfl (Or.inl rfl)) pgs_nil)))) (fun _ _ _ _ _ => pts_nil) (fun _ _ _ _ _ => (pe_op o_rep (pe_op o_rep (pv 6) (pe_ix (ix_seqK (K := K) rfl) (pv 2) (pv 5) (fun _ _ => rfl))) (pe_ix (ix_seqK (K := K) rfl) (pv 3) (pe_op o_sub (pe_fldK (K := K) rfl (pv 0) rfl) (pv 5)) (fun _ _ => rfl)))))
    (pss_one (ps_ret (pe_sm (c_Poly_made (K := K) L) hr (by decide) (L2N.takes_of rfl rfl rfl rfl) (pe_cls L.g_Poly) (pa_cons (pv 4) (pa_cons (pe_op o_rep (pe_fld (pv 0) rfl) (pe_ix (ix_seqK (K := K) rfl) (pv 3) (pe_un o_neg pe_int) (fun _ _ => rfl))) pa_nil)))))))), ?_⟩
  obtain ⟨p, r, n, N, P, v, rfl, rfl, ⟨ls, o, ⟨dx, tu, hp, htu⟩, hl, o0, bo, bl, ht, hP⟩, n13, hN, ⟨t, b, hr, b0, bt, bb, ev⟩, v0, k⟩ := h
  obtain ⟨b1, b2⟩ := bits_lt bb (by decide)
  obtain ⟨t1, t2⟩ := bits_lt bt (by decide)
  have t0 : t ≠ 0 := fun z => by
    rw [z] at ev
    have := ne_cast (show b ≠ 0 by omega)
    have q : v * (b : Rat) = 0 := ev.symm
    rcases Rat.mul_eq_zero.mp q with z | z
    · exact v0 z
    · exact this z
  walk_at "zz"
  refine u_prow t1 t2 (by omega) (by omega) (fun pt H0 ts hpt s0 ept lts cts => ?_)
  walk_at "zz"
  refine u_prow b1 b2 (by omega) (by omega) (fun pw H1 ps hpw s1 epw lps cps => ?_)
  walk_at "zz"
  rw [hl] at lps cps lts cts
  have lps' : ps.length = n - 1 + 1 := by omega
  have cps' : ∀ k, k ≤ n - 1 → cf ps k = b ^ k := fun k hk => cps k (by omega)
  have cts' : ∀ k, k ≤ n - 1 → cf ts k = t ^ k := fun k hk => cts k (by omega)
  refine z_lcE (k := true) (xs := ls.map V.int) (fun j => V.int (cf ls j * t ^ j * b ^ (n - 1 - j))) (fun H' s => SqK.T (s _ _ (s1 _ _ (s0 _ _ htu)))) (by rw [List.length_map]; omega) (fun j x H2 N2 hx s2 c => ⟨rfl, ?_⟩) (fun D HD hD sD hlD => ?_)
  · obtain ⟨hj, rfl⟩ := map_at hx
    walk_at "zz"
    refine z_ixcf (j := j) (s2 _ _ (s1 _ _ ept)) rfl (by omega) ?_
    rw [cts' _ (by omega)]
    refine z_repU (bl j) (Bits.pow bt j) (by omega) ?_
    walk_at "zz"
    refine z_ixcf (j := n - 1 - j) (s2 _ _ epw) (by omega) (by omega) ?_
    rw [cps' _ (by omega)]
    refine z_repU ((bl j).mul (Bits.pow bt j)) (Bits.pow bb (n - 1 - j)) (by omega) ?_
    exact c _ (fun _ _ h => h)
  rw [List.length_map, hl] at hlD
  obtain ⟨ns, ens, lns, cns⟩ := range_ints (n := n) fun j => cf ls j * t ^ j * b ^ (n - 1 - j)
  rw [ens] at hlD
  walk_at "zz"
  refine z_ixL (SqL.of (sD _ _ epw)) (at_last lps') ?_
  rw [cps' _ (Nat.le_refl _)]
  refine z_repU bo (Bits.pow bb (n - 1)) (by omega) ?_
  have op : 0 < o * b ^ (n - 1) := Int.mul_pos o0 (Int.pow_pos b0)
  walk_at "zz"
  refine u_made hlD (by omega) (by omega) (Bits.up (bo.mul (Bits.pow bb (n - 1))) (by omega)) (fun x H3 ls' o' s3 hx lw => ?_)
  refine k x H3 (((s0.trans s1).trans sD).trans s3) (PQ.of hx lw op lns (Bits.up (bo.mul (Bits.pow bb (n - 1))) (by omega)) (fun k => ?_) (fun m hm => ?_) (fun x => ?_))
  · by_cases c : k < n
    · rw [cns k c]
      exact Bits.up (((bl k).mul (Bits.pow bt k)).mul (Bits.pow bb (n - 1 - k))) (by omega)
    · rw [S31.cf_out (by omega)]
      exact Bits.zero
  · have q : 0 < b ^ (n - 1 - m) := Int.pow_pos b0
    rw [cns m (by omega)]
    exact Int.mul_ne_zero (Int.mul_ne_zero (ht m hm) (Int.pow_ne_zero t0)) (by omega)
  · have vb : v = (t : Rat) / b := by
      have := ne_cast (show b ≠ 0 by omega)
      rw [ev]
      grind
    rw [vb, ← hP]
    cases n with
    | zero => rfl
    | succ d =>
      rw [Nat.add_sub_cancel] at *
      exact E_str o0 b0 fun k hk => cns k (by omega)
theorem c_Poly_stretched (L : Lw K mg) : Met P w K mg base 7 (He.ga K "Poly") "stretched" (sp2 (fs_str K)) [] := by
  obtain ⟨fd, F⟩ := L.d_Poly_stretched
  exact ⟨⟨_, fd, ["self", "ratio"], [], L.cl_Poly, L.me_Poly_stretched, ok_Poly_stretched L F, F.bindsN (fun _ _ _ _ _ _ us hl => match us, hl with | [_, _], _ => rfl), .nil⟩⟩
end
end T

set_option maxHeartbeats 4000000
namespace T
open PySem PySem.Spec PyProof.Rows L2 Z
/-! the readings' steps, as one word: walk_at "z" (one step), "zz" (as far as it goes), "up" (a fact carried here) -/
local macro_rules | `(tactic| walk_at "up") => `(tactic| first
  | assumption
  | (refine' IsR.mono (by assumption) ?zup; case zup => walk_at "up")
  | (refine' IsE.mono (by assumption) ?zup; case zup => walk_at "up")
  | (refine' Same.at (by assumption) ?zup; case zup => walk_at "up")
  | (refine' SqL.of ?zup; case zup => walk_at "up")
  | (refine' L2.Same.seq (by assumption) ?zup; case zup => walk_at "up"))
local macro_rules | `(tactic| walk_at "z") => `(tactic| first
  | ((with_reducible refine' z_var ?zvh ?_); (case zvh => exact rfl))
  | with_reducible refine z_c ?_
  | with_reducible refine z_cons ?_
  | with_reducible refine z_nil ?_
  | with_reducible refine z_op ?_
  | with_reducible refine z_nx ?_
  | with_reducible refine z_seq ?_
  | with_reducible refine z_asg ?_
  | with_reducible refine z_asgG ?_
  | with_reducible refine z_call ?_
  | with_reducible refine z_sq0 ?_
  | with_reducible refine z_sq1 ?_
  | with_reducible refine z_ifS ?_
  | with_reducible refine z_test ?_
  | with_reducible refine z_tb ?_
  | with_reducible refine z_bl ?_
  | with_reducible refine z_blI ?_
  | with_reducible refine z_ret ?_
  | with_reducible refine z_rt ?_
  | with_reducible refine z_T ?_
  | with_reducible refine z_F ?_
  | with_reducible refine z_add ?_
  | with_reducible refine z_sub ?_
  | with_reducible refine z_neg ?_
  | with_reducible refine z_un ?_
  | with_reducible refine z_eqI ?_
  | with_reducible refine z_neI ?_
  | with_reducible refine z_lt ?_
  | with_reducible refine z_le ?_
  | with_reducible refine z_gt ?_
  | with_reducible refine z_ge ?_
  | with_reducible refine z_not ?_
  | with_reducible refine z_and ?_
  | with_reducible refine z_or ?_
  | with_reducible refine z_andV ?_
  | with_reducible refine z_orV ?_
  | with_reducible refine z_notV ?_
  | with_reducible refine z_if ?_
  | with_reducible refine z_cb ?_
  | with_reducible refine z_int1 ?_
  | with_reducible refine z_intb ?_
  | with_reducible refine z_abs ?_
  | with_reducible refine z_gcd ?_
  | with_reducible refine z_isi_ii ?_
  | with_reducible refine z_isi_ib ?_
  | with_reducible refine z_next ?_
  | with_reducible refine z_drop ?_
  | with_reducible refine z_par ?_
  | with_reducible refine z_par2 ?_
  | with_reducible refine z_tupN ?_
  | with_reducible refine z_lstN ?_
  | ((with_reducible refine' z_nt ?zl1 ?_); (case zl1 => exact Nat.le_of_ble_eq_true rfl); intro p H' hp hs he)
  | ((with_reducible refine' z_gtup ?zl1 ?zl2 ?_); (case zl1 => walk_at "up"); (case zl2 => exact rfl))
  | with_reducible refine z_bk ?_
  | with_reducible refine z_ct ?_
  | with_reducible refine z_break ?_
  | with_reducible refine z_cont ?_
  | with_reducible refine z_retN ?_
  | with_reducible refine z_nn ?_
  | with_reducible refine z_mk ?_
  | with_reducible refine z_gn ?_
  | with_reducible refine z_gcons ?_
  | with_reducible refine z_gnil ?_
  | with_reducible refine z_mt ?_
  | with_reducible refine z_mko ?_
  | with_reducible refine z_for2 ?_
  | with_reducible refine z_ownI ?_
  | ((with_reducible refine' z_lenL ?zl1 ?_); (case zl1 => walk_at "up"))
  | ((with_reducible refine' z_ixT ?zl1 ?zl2 ?_); (case zl1 => walk_at "up"); (case zl2 => exact rfl))
  | ((with_reducible refine' z_mulL ?zl1 ?zl2 ?_); (case zl1 => omega); (case zl2 => omega))
  | ((with_reducible refine' z_mulR ?zl1 ?zl2 ?_); (case zl1 => omega); (case zl2 => omega))
  | ((with_reducible refine' z_divS ?zl1 ?zl2 ?_); (case zl1 => omega); (case zl2 => omega))
  | ((with_reducible refine' z_mulW ?zl1 ?zl2 ?zl3 ?zl4 ?_); (case zl1 => omega); (case zl2 => omega); (case zl3 => omega); (case zl4 => omega))
  | ((with_reducible refine' z_divW ?zl1 ?zl2 ?_); (case zl1 => omega); (case zl2 => omega)))
local macro_rules | `(tactic| walk_at "zz") => `(tactic| repeat (walk_at "z"))
local macro_rules | `(tactic| walk_at "z") => `(tactic| with_reducible refine z_lstN ?_)
local macro_rules | `(tactic| walk_at "z") => `(tactic| with_reducible refine z_p6 ?_)
local macro_rules | `(tactic| walk_at "z") => `(tactic| with_reducible refine z_p12 ?_)
local macro_rules | `(tactic| walk_at "z") => `(tactic| with_reducible refine z_p13 ?_)
local macro_rules | `(tactic| walk_at "z") => `(tactic| with_reducible refine z_calln ?_)
local macro_rules | `(tactic| walk_at "z") => `(tactic| with_reducible refine z_xfS ?_)
local macro_rules | `(tactic| walk_at "z") => `(tactic| with_reducible refine z_lcS ?_)
local macro_rules | `(tactic| walk_at "z") => `(tactic| with_reducible refine z_lcRS ?_)
local macro_rules | `(tactic| walk_at "z") => `(tactic| with_reducible refine z_lcZS ?_)
local macro_rules | `(tactic| walk_at "z") => `(tactic| with_reducible refine z_foS ?_)
local macro_rules | `(tactic| walk_at "z") => `(tactic| with_reducible refine z_for1 ?_)
local macro_rules | `(tactic| walk_at "z") => `(tactic| with_reducible refine z_tsl ?_)
local macro_rules | `(tactic| walk_at "z") => `(tactic| with_reducible refine z_np ?_)
local macro_rules | `(tactic| walk_at "z") => `(tactic| with_reducible refine z_pt ?_)
local macro_rules | `(tactic| walk_at "z") => `(tactic| with_reducible refine z_pti ?_)
local macro_rules | `(tactic| walk_at "z") => `(tactic| with_reducible refine z_catI ?_)
local macro_rules | `(tactic| walk_at "z") => `(tactic| with_reducible refine z_isNI ?_)
local macro_rules | `(tactic| walk_at "z") => `(tactic| with_reducible refine z_isNN ?_)
local macro_rules | `(tactic| walk_at "z") => `(tactic| with_reducible refine z_notNI ?_)
local macro_rules | `(tactic| walk_at "z") => `(tactic| with_reducible refine z_notNN ?_)
local macro_rules | `(tactic| walk_at "z") => `(tactic| with_reducible refine z_gsub ?_)
local macro_rules | `(tactic| walk_at "z") => `(tactic| with_reducible refine z_isNb ?_)
local macro_rules | `(tactic| walk_at "z") => `(tactic| with_reducible refine z_notNb ?_)
local macro_rules | `(tactic| walk_at "z") => `(tactic| ((with_reducible refine' z_nlR ?zl1 ?_); (case zl1 => exact Nat.le_of_ble_eq_true rfl); intro p H' hp hs he))
local macro_rules | `(tactic| walk_at "z") => `(tactic| ((with_reducible refine' z_repR ?zl1 ?zl2 ?_); (case zl1 => omega); (case zl2 => omega)))
local macro_rules | `(tactic| walk_at "z") => `(tactic| ((with_reducible refine' z_repL ?zl1 ?zl2 ?_); (case zl1 => omega); (case zl2 => omega)))
local macro_rules | `(tactic| walk_at "z") => `(tactic| ((with_reducible refine' z_lenLst ?zl1 ?_); (case zl1 => walk_at "up")))
local macro_rules | `(tactic| walk_at "z") => `(tactic| ((with_reducible refine' z_cat ?zl1 ?zl2 ?zl3 ?_); (case zl1 => walk_at "up"); (case zl2 => walk_at "up"); (case zl3 => (simp only [List.length_map, List.length_cons, List.length_nil, List.length_append, List.length_replicate]; omega)); intro p H' hp hs he))
local macro_rules | `(tactic| walk_at "z") => `(tactic| with_reducible refine z_sfl ?_)
local macro_rules | `(tactic| walk_at "z") => `(tactic| with_reducible refine z_lcES ?_)
local macro_rules | `(tactic| walk_at "z") => `(tactic| with_reducible refine z_lcMS ?_)
local macro_rules | `(tactic| walk_at "z") => `(tactic| with_reducible refine z_foES ?_)
local macro_rules | `(tactic| walk_at "z") => `(tactic| with_reducible refine z_fo3S ?_)
local macro_rules | `(tactic| walk_at "z") => `(tactic| with_reducible refine z_sta ?_)
local macro_rules | `(tactic| walk_at "z") => `(tactic| with_reducible refine z_sta1 ?_)
local macro_rules | `(tactic| walk_at "z") => `(tactic| with_reducible refine z_lcTS ?_)
local macro_rules | `(tactic| walk_at "z") => `(tactic| with_reducible refine z_foTS ?_)
local macro_rules | `(tactic| walk_at "z") => `(tactic| ((with_reducible refine' z_fldt ?zc1 ?zc2 ?zl1 ?zl2 ?_); (case zc1 => exact Lw.cl_Ratio (by assumption)); (case zc2 => exact Lw.na_Ratio_top (by assumption)); (case zl1 => exact rfl); (case zl2 => walk_at "up")))
local macro_rules | `(tactic| walk_at "z") => `(tactic| ((with_reducible refine' z_fldb ?zc1 ?zc2 ?zl1 ?zl2 ?_); (case zc1 => exact Lw.cl_Ratio (by assumption)); (case zc2 => exact Lw.na_Ratio_bottom (by assumption)); (case zl1 => exact rfl); (case zl2 => walk_at "up")))
local macro_rules | `(tactic| walk_at "z") => `(tactic| ((with_reducible refine' z_fldG ?zc1 ?zc2 ?zl0 ?zl1 ?zl2 ?_); (case zc1 => exact Lw.cl_Poly (by assumption)); (case zc2 => exact Lw.na_Poly_numbers (by assumption)); (case zl0 => exact rfl); (case zl1 => walk_at "up"); (case zl2 => exact lkA)))
local macro_rules | `(tactic| walk_at "z") => `(tactic| ((with_reducible refine' z_fldG ?zc1 ?zc2 ?zl0 ?zl1 ?zl2 ?_); (case zc1 => exact Lw.cl_Poly (by assumption)); (case zc2 => exact Lw.na_Poly_over (by assumption)); (case zl0 => exact rfl); (case zl1 => walk_at "up"); (case zl2 => exact lkO)))
local macro_rules | `(tactic| walk_at "z") => `(tactic| ((with_reducible refine' z_fldG ?zc1 ?zc2 ?zl0 ?zl1 ?zl2 ?_); (case zc1 => exact Lw.cl_Poly (by assumption)); (case zc2 => exact Lw.na_Poly_degree (by assumption)); (case zl0 => exact rfl); (case zl1 => walk_at "up"); (case zl2 => exact lkD)))
theorem same30f {H H1 H2 : Hp} (h : Same H1 H2) (e : Same H H1) : Same H H2 := e.trans h
local macro_rules | `(tactic| walk_at "sm") => `(tactic| first
  | assumption
  | exact fun _ _ h => h
  | (refine' same30f (by assumption) ?zsm; case zsm => walk_at "sm"))
local macro_rules | `(tactic| walk_at "up") => `(tactic| first
  | assumption
  | (with_reducible refine' IsR.mono (by assumption) ?zup; case zup => walk_at "up")
  | (with_reducible refine' IsV.mono (by assumption) ?zup; case zup => walk_at "up")
  | (with_reducible refine' IsQ.mono (by assumption) ?zup; case zup => walk_at "up")
  | (with_reducible refine' PQ.mono (by assumption) ?zup; case zup => walk_at "up")
  | (with_reducible refine' RL.mono (by assumption) ?zup; case zup => walk_at "up")
  | (with_reducible refine' PL.mono (by assumption) ?zup; case zup => walk_at "up")
  | (with_reducible refine' Same.at (by assumption) ?zup; case zup => walk_at "up")
  | fail)

open S31 (cf pb)
open S30
theorem IsV.up {K : Frag} {H : Hp} {p : Addr} {v : Rat} {B C : Nat} (h : IsV K H p v B) (hb : B ≤ C) : IsV K H p v C := by
  obtain ⟨t, b, h1, h2, h3, h4, h5⟩ := h
  exact ⟨t, b, h1, h2, h3.up hb, h4.up hb, h5⟩
theorem RL.imp {K : Frag} {H : Hp} {l : Addr} {n : Nat} {v w : Sq} {B C : Nat} (h : RL K H l n v B) (hb : B ≤ C) (e : ∀ k, k < n → v k = w k) : RL K H l n w C := Ls.imp h fun x k hk ⟨a, ex, z⟩ => ⟨a, ex, by rw [← e k hk]; exact z.up hb⟩
theorem PL.imp {H : Hp} {l : Addr} {n : Nat} {v w : Sq} {B C : Nat} (h : PL H l n v B) (hb : B ≤ C) (e : ∀ k, k < n → v k = w k) : PL H l n w C := Ls.imp h fun x k hk ⟨a, t, b, ex, h1, h2, h3, h4, h5⟩ => ⟨a, t, b, ex, h1, h2, h3.up hb, h4.up hb, by rw [← e k hk]; exact h5⟩
theorem u_shift {K : Frag} {H : Hp} {Q : VK} {E : XK} {p r : Addr} {n N : Nat} {P : Rat → Rat} {v : Rat} (h : PQ K H p n N P) (hn : n ≤ 13) (hN : N ≤ 1000) (hr : IsV K H r v 30) (k : ∀ x H', Same H H' → PQ K H' x n (N + 6000) (fun x => P (v + x)) → Q (.ref x) H') : sp2 (fs_sft K) [.ref p, .ref r] H Q E := ⟨_, _, rfl, p, r, n, N, P, v, rfl, rfl, h, hn, hN, hr, k⟩
theorem u_stretch {K : Frag} {H : Hp} {Q : VK} {E : XK} {p r : Addr} {n N : Nat} {P : Rat → Rat} {v : Rat} (h : PQ K H p n N P) (hn : n ≤ 13) (hN : N ≤ 7500) (hr : IsV K H r v 30) (v0 : v ≠ 0) (k : ∀ x H', Same H H' → PQ K H' x n (N + 1000) (fun x => P (v * x)) → Q (.ref x) H') : sp2 (fs_str K) [.ref p, .ref r] H Q E := ⟨_, _, rfl, p, r, n, N, P, v, rfl, rfl, h, hn, hN, hr, v0, k⟩
theorem u_subR {K : Frag} {r0 : R2} {H : Hp} {Q : VK} {E : XK} {p r : Addr} {v w : Rat} {B : Nat} (h1 : IsV K H p v B) (h2 : IsV K H r w B) (B0 : 0 < B) (B1 : B ≤ 4000) (k : ∀ x H', Same H H' → IsV K H' x (v - w) (B + B + 1) → Q (.ref x) H') : rOr r0 (rOwn2 (He.ga K "Ratio") (sp2 (fs_rsub K)) E) (.ref p) (.ref r) H Q := by
  obtain ⟨t, b, ⟨dx, q1⟩, z⟩ := id h1
  obtain ⟨t', b', ⟨dy, q2⟩, z'⟩ := id h2
  exact z_own2 q1 q2 ⟨_, _, rfl, p, r, v, w, B, rfl, rfl, h1, h2, B0, B1, fun x H' s q => ⟨⟨x, rfl⟩, k x H' s q⟩⟩
theorem u_mtPQ {K : Frag} {H : Hp} {p : Addr} {n N : Nat} {P : Rat → Rat} {m : Str} {R : Prop} (h : PQ K H p n N P) (q : R) (h1 : ¬ m = "numbers" := by decide +kernel) (h2 : ¬ m = "over" := by decide +kernel) (h3 : ¬ m = "degree" := by decide +kernel) : zMt (He.ga K "Poly") m (.ref p) H R := by
  obtain ⟨ls, o, ⟨dx, t, hp, _⟩, _⟩ := h
  exact ⟨p, dx, _, rfl, hp, by rw [lookup_put, if_neg h1, lookup_put, if_neg h2, lookup_put, if_neg h3]; rfl, q⟩
def fs_ctops (K : Frag) : F3 := fun a c e H Q _ => ∃ (p r s : Addr) (n : Nat) (P : Rat → Rat) (v w : Rat), a = .ref p ∧ c = .ref r ∧ e = .ref s ∧ PQ K H p n 20 P ∧ n ≤ 13 ∧ IsV K H r v 12 ∧ IsV K H s w 12 ∧ v < w ∧
  ∀ t l H' ts o A, Same H H' → H' t = some (.tup [.ref l, .int o]) → H' l = some (.lst (ts.map V.int)) → ts.length = n → 0 < o → Bits 8000 o → (∀ k, Bits 8000 (cf ts k)) → (∀ x : Rat, S30.E A x n = P (v + (w - v) * x)) → (∀ k, k < n → (cf ts k : Rat) = cn (n - 1) A k * (o : Rat)) → Q (.ref t) H'
section
variable {P : Program} {w : World} {K : Frag} {mg : Str → Option Value} {base : Heap}
theorem ok_corner_tops (L : Lw K mg) {fd : FuncData} (F : FunD K "corner_tops" "corner_tops" (defArgs s_corner_tops) (defBody s_corner_tops) (defScope s_corner_tops) (df_corner_tops.dvs K) (df_corner_tops.kws K) (He.fAd K ("corner_tops", none)) fd) : FnOk P w K mg base (L2N.CX P w) 8 (He.fAd K ("corner_tops", none)) fd (["poly", "low", "high"] : List Str) (sp3 (fs_ctops K)) := by
  refine FunD.ok F sc_corner_tops len3 (fun cdv A outer s H vs Q E hr h => ?_)
  obtain ⟨a, b, c, rfl, h⟩ := h
  refine ⟨_, (pss_cons (ps_set (i := 3) sc_corner_tops.nd rfl (by first | exact Or.inl rfl | exact Or.inr rfl) (pe_mt (c_Poly_stretched (K := K) L) hr (by decide) (L2N.takes_of rfl rfl rfl rfl) (pe_mt (c_Poly_shifted (K := K) L) hr (by decide) (L2N.takes_of rfl rfl rfl rfl) (pv 0) (pa_cons (pv 1) pa_nil)) (pa_cons (pe_op (op_or2 o_sub (op_own (by rfl) L.sf_Ratio (c_RatioD_subD (K := K) L) hr (by decide) passF)) (pv 2) (pv 1)) pa_nil)))
    (pss_cons (ps_setLc (i := 4) (own := [("k", 5)]) (g := (gName 5)) (tt := tYes) rfl sc_corner_tops.nd rfl rfl (sw_true rfl rfl rfl (by decide +kernel)) (pi_range1 (by rfl) L.f_range (pa_cons (pe_op o_cat (pe_fld (pv 0) rfl) pe_int) pa_nil)) (blkOk_by (N := ["poly", "low", "high", "moved", "ways", "k", "common", "many", "differences", "number", "tops", "first", "second"]) (sc := defScope s_corner_tops) (by decide +kernel)) (fun _ _ _ _ _ => pg_name (i := 5) sc_corner_tops.nd rfl (Or.inl rfl)) (fun _ _ _ _ _ => pts_nil) (fun _ _ _ _ _ => (pe_callBfun cr_comb rfl L.v_comb (pa_cons (pe_fldK (K := K) rfl (pv 0) rfl) (pa_cons (pv 5) pa_nil)))))
    (pss_cons (ps_set (i := 6) sc_corner_tops.nd rfl (by first | exact Or.inl rfl | exact Or.inr rfl) pe_int)
    (pss_cons (ps_for (passes_of rfl) rfl (pi_listK (K := K) rfl (pv 4)) (pg_name (i := 7) sc_corner_tops.nd rfl (by first | exact Or.inl rfl | exact Or.inr rfl)) (pss_one (ps_set (i := 6) sc_corner_tops.nd rfl (by first | exact Or.inl rfl | exact Or.inr rfl) (pe_callBfun cr_lcm rfl L.v_lcm (pa_cons (pv 6) (pa_cons (pv 7) pa_nil))))))
    (pss_cons (ps_setLc (i := 8) (own := [("number", 9), ("many", 7)]) (g := (gTup K 2 (gCons (gName 9) (gCons (gName 7) gNil)))) (tt := tYes) rfl sc_corner_tops.nd rfl rfl (sw_true rfl rfl rfl (by decide +kernel)) (piK (fun K => iZipM K _) (K := K) rfl (pi_zipM (by rfl) L.f_zip (pa_cons (pe_fld (pv 3) rfl) (pa_cons (pv 4) pa_nil)))) (blkOk_by (N := ["poly", "low", "high", "moved", "ways", "k", "common", "many", "differences", "number", "tops", "first", "second"]) (sc := defScope s_corner_tops) (by decide +kernel)) (fun _ _ _ _ _ => pgK (fun K => gTup K 2 (gCons (gName 9) (gCons (gName 7) gNil))) (K := K) rfl (pg_tup rfl (pgs_cons (pg_name (i := 9) sc_corner_tops.nd rfl (Or.inl rfl)) (pgs_cons (pg_name (i := 7) sc_corner_tops.nd rfl (Or.inl rfl)) pgs_nil)))) (fun _ _ _ _ _ => pts_nil) (fun _ _ _ _ _ => (pe_op o_rep (pv 9) (pe_op o_div (pv 6) (pv 7)))))
    (pss_cons (ps_set (i := 10) sc_corner_tops.nd rfl (by first | exact Or.inl rfl | exact Or.inr rfl) (pe_lst pa_nil))
    (pss_cons (ps_while (passes_of rfl) (pt_cmpR o_gt (pe_callB (callK rLen1 (K := K) rfl o_len) (by rfl) L.f_len (by decide +kernel) (pa_cons (pv 8) pa_nil)) pe_int (nomark _)) (pss_cons (ps_expr (pe_bm PySem.F.plainAttrs_list PySem.F.slot_list_append PySem.F.type_list_append mt_append (pv 10) (pa_cons (pe_ix (ix_seqK (K := K) rfl) (pv 8) pe_int (fun _ _ => rfl)) pa_nil)))
    (pss_one (ps_setLc (i := 8) (own := [("first", 11), ("second", 12)]) (g := (gTup K 2 (gCons (gName 11) (gCons (gName 12) gNil)))) (tt := tYes) rfl sc_corner_tops.nd rfl rfl (sw_true rfl rfl rfl (by decide +kernel)) (piK (fun K => iZipM K _) (K := K) rfl (pi_zipM (by rfl) L.f_zip (pa_cons (pv 8) (pa_cons (pe_slice (slK rSlL (K := K) rfl sl_list) (pv 8) (po_some pe_int) po_none) pa_nil)))) (blkOk_by (N := ["poly", "low", "high", "moved", "ways", "k", "common", "many", "differences", "number", "tops", "first", "second"]) (sc := defScope s_corner_tops) (by decide +kernel)) (fun _ _ _ _ _ => pgK (fun K => gTup K 2 (gCons (gName 11) (gCons (gName 12) gNil))) (K := K) rfl (pg_tup rfl (pgs_cons (pg_name (i := 11) sc_corner_tops.nd rfl (Or.inl rfl)) (pgs_cons (pg_name (i := 12) sc_corner_tops.nd rfl (Or.inl rfl)) pgs_nil)))) (fun _ _ _ _ _ => pts_nil) (fun _ _ _ _ _ => (pe_op o_cat (pv 11) (pv 12)))))))
    (pss_one (ps_ret (pe_tup (pa_cons (pv 10) (pa_cons (pe_op o_rep (pv 6) (pe_fld (pv 3) rfl)) pa_nil)))))))))))), ?_⟩
  obtain ⟨p, r, s, n, P, v, w, rfl, rfl, rfl, hp, n13, hv, hw, vw, k⟩ := h
  walk_at "zz"
  refine u_mtPQ hp ?_
  walk_at "zz"
  refine u_shift hp n13 (by decide) (hv.up (by decide)) (fun q1 H1 s1 hq1 => ?_)
  refine u_mtPQ hq1 ?_
  walk_at "zz"
  refine u_subR (hw.mono s1) (hv.mono s1) (by decide) (by decide) (fun q2 H2 s2 hq2 => ?_)
  walk_at "zz"
  refine u_stretch (hq1.mono s2) n13 (by decide) (hq2.up (by decide)) (by grind) (fun q3 H3 s3 hq3 => ?_)
  obtain ⟨ls, o1, ⟨dx, tu, ep, etu⟩, hl, _⟩ := hp
  obtain ⟨ms, mo, ⟨dm, tm, em, etm⟩, hml, mo0, mbo, mbl, _, mP⟩ := hq3
  have s123 := (s1.trans s2).trans s3
  have ep3 := s123 _ _ ep
  walk_at "zz"
  refine z_lcR (n := (ls.length : Int) - 1 + 1) (fun j => V.int (pb (n - 1) j)) (by omega) (by omega) (fun j H4 N hj s4 c => ⟨rfl, ?_⟩) (fun D HD hD sD hlD => ?_)
  · walk_at "zz"
    have ed : ((ls.length : Int) - 1) = ((n - 1 : Nat) : Int) := by omega
    refine ⟨_, _, rfl, by omega, by omega, by omega, by omega, ?_⟩
    rw [ed, (comb_pb (n - 1) (by omega) j (by omega)).1]
    exact c _ (fun _ _ h => h)
  have en : ((ls.length : Int) - 1 + 1).toNat = n := by omega
  rw [en] at hlD
  obtain ⟨ws, ews, lws, cws⟩ := range_ints (n := n) fun j => pb (n - 1) j
  rw [ews] at hlD
  walk_at "zz"
  refine z_foV hlD (fun i σ' H' => ∃ (c : Int) (x7 : Option V), σ' = [some (.ref p), some (.ref r), some (.ref s), some (.ref q3), some (.ref D), none, some (.int c), x7, none, none, none, none, none] ∧ H' = HD ∧ 0 < c ∧ Bits (13 * i + 1) c ∧ ∀ j, j < i → pb (n - 1) j ∣ c) ⟨1, none, rfl, rfl, by decide, Bits.small (n := 1) (by decide) (by decide), fun j hj => absurd hj (Nat.not_lt_zero _)⟩ (fun i σ' H' z => by obtain ⟨c, x, _, rfl, _⟩ := z; exact hlD) ?_ ?_
  · rintro i x σ' H' hx ⟨c, x7, rfl, rfl, c0, cb, cd⟩
    obtain ⟨hi, rfl⟩ := map_at hx
    have hi' : i < n := by omega
    rw [cws i hi']
    obtain ⟨_, w0, w1⟩ := comb_pb (n - 1) (by omega) i (by omega)
    have wb : Bits 13 (pb (n - 1) i) := Bits.small (n := 13) (by show -(8192 : Int) < _; omega) (by show _ < (8192 : Int); omega)
    obtain ⟨l0, l1, l2, l3⟩ := lcm_facts c0 w0
    walk_at "zz"
    refine z_lcm cb wb (by omega) (by decide) ?_
    walk_at "zz"
    refine ⟨_, _, rfl, rfl, l0, Bits.up (l3 _ _ cb wb) (by omega), fun j hj => ?_⟩
    by_cases e : j = i
    · rw [e]
      exact l2
    · exact Int.dvd_trans (cd j (by omega)) l1
  rintro σ' H' ⟨c, x7, rfl, rfl, c0, cb, cd⟩
  rw [List.length_map, lws] at cb cd
  have etm' := sD _ _ etm
  have em' := sD _ _ em
  walk_at "zz"
  refine z_lcM (k1 := true) (k2 := false) (n := n) (us := ms.map V.int) (ys := ws.map V.int) (fun j => V.int (cf ms j * (c / pb (n - 1) j))) (fun H' s => SqK.T (s _ _ etm')) (fun H' s => SqK.L (s _ _ hlD)) (by rw [List.length_map, List.length_map, hml, lws, Nat.min_self]) (by omega) (fun j x y H4 N hx hy s4 cc => ⟨rfl, ?_⟩) (fun D2 HD2 hD2 sD2 hlD2 => ?_)
  · obtain ⟨hj, rfl⟩ := map_at hx
    obtain ⟨hj', rfl⟩ := map_at hy
    have hjn : j < n := by omega
    rw [cws j hjn]
    obtain ⟨_, w0, w1⟩ := comb_pb (n - 1) (by omega) j (by omega)
    walk_at "zz"
    refine z_repU (mbl j) (cb.div) (by omega) ?_
    exact cc _ (fun _ _ h => h)
  obtain ⟨ds, eds, lds, cds⟩ := range_ints (n := n) fun j => cf ms j * (c / pb (n - 1) j)
  rw [eds] at hlD2
  have bds : ∀ k, Bits 7400 (cf ds k) := fun k => by
    by_cases h : k < n
    · rw [cds k h]
      exact Bits.up ((mbl k).mul cb.div) (by omega)
    · rw [S31.cf_out (by omega)]
      exact Bits.zero
  walk_at "zz"
  rename_i tl Ht htl st etl
  have htl0 : H tl = none := Same.none (((s123.trans sD)).trans sD2) htl
  have neD2 : D2 ≠ tl := ne_of_none hlD2 htl
  refine ⟨fun m σ' H' => ∃ (i : Nat) (es ts : List Int) (d8 : Addr), σ' = [some (.ref p), some (.ref r), some (.ref s), some (.ref q3), some (.ref D), none, some (.int c), x7, some (.ref d8), none, some (.ref tl), none, none] ∧ Same HD2 H' ∧ m = n - i ∧ i ≤ n ∧ d8 ≠ tl ∧
    H' d8 = some (.lst (es.map V.int)) ∧ es.length = n - i ∧ (∀ j, j < n - i → cf es j = W (cf ds) i j) ∧ (∀ k, Bits (7400 + i) (cf es k)) ∧ H' tl = some (.lst (ts.map V.int)) ∧ ts.length = i ∧ (∀ j, j < i → cf ts j = W (cf ds) j 0) ∧ ∀ k, Bits (7400 + n) (cf ts k), ⟨_, 0, ds, [], D2, rfl, st, rfl, Nat.zero_le _, neD2, st _ _ hlD2, lds, fun j hj => rfl, bds, etl, rfl, fun j hj => absurd hj (Nat.not_lt_zero _), fun k => by rw [S31.cf_nil]; exact Bits.zero⟩, ?_⟩
  rintro m σ' H' ⟨i, es, ts, d8, rfl, sH, rfl, hin, ne8, h8, les, ces, bes, ht8, lts, cts, bts⟩
  walk_at "zz"
  refine z_d2 (fun cc => ?_) (fun cc => ?_)
  · rw [List.length_map] at cc
    have hi : i < n := by omega
    refine ⟨_, fun _ _ h => h, ?_⟩
    walk_at "zz"
    refine z_app rfl ht8 ?_
    walk_at "zz"
    refine z_ixcf (j := 0) h8 rfl (by omega) ?_
    walk_at "zz"
    refine z_ap ht8 (by rw [List.length_map]; omega) ?_
    have e9 : ts.map V.int ++ [V.int (cf es 0)] = (ts ++ [cf es 0]).map V.int := by simp
    rw [e9]
    have h8' : (upd H' tl (.lst ((ts ++ [cf es 0]).map V.int))) d8 = some (.lst (es.map V.int)) := by rw [upd_ne ne8]; exact h8
    have ht8' : (upd H' tl (.lst ((ts ++ [cf es 0]).map V.int))) tl = some (.lst ((ts ++ [cf es 0]).map V.int)) := upd_same
    have sH' : Same HD2 (upd H' tl (.lst ((ts ++ [cf es 0]).map V.int))) := Same.put sH htl
    generalize (upd H' tl (.lst ((ts ++ [cf es 0]).map V.int))) = H5 at *
    walk_at "zz"
    refine z_sll h8' (fun d9 H6 hd9 s6 e6 => ?_)
    rw [show (1 : Int) = ((1 : Nat) : Int) from rfl, cut_lo, ← List.map_drop] at e6
    walk_at "zz"
    refine z_lcM (k1 := false) (k2 := false) (n := n - (i + 1)) (us := es.map V.int) (ys := (es.drop 1).map V.int) (fun j => V.int (cf es j + cf es (j + 1))) (fun H' s => SqK.L (s _ _ (s6 _ _ h8'))) (fun H' s => SqK.L (s _ _ e6)) (by rw [List.length_map, List.length_map, List.length_drop]; omega) (by omega) (fun j x y H4 N hx hy s4 c4 => ⟨rfl, ?_⟩) (fun D3 HD3 hD3 sD3 hlD3 => ?_)
    · obtain ⟨hj, rfl⟩ := map_at hx
      obtain ⟨hj', rfl⟩ := map_at hy
      have ed : cf (es.drop 1) j = cf es (j + 1) := by
        unfold cf
        rw [List.getD_eq_getElem?_getD, List.getD_eq_getElem?_getD, List.getElem?_drop, Nat.add_comm]
      rw [ed]
      walk_at "zz"
      exact c4 _ (fun _ _ h => h)
    obtain ⟨ns, ens, lns, cns⟩ := range_ints (n := n - (i + 1)) fun j => cf es j + cf es (j + 1)
    rw [ens] at hlD3
    walk_at "zz"
    refine ⟨n - (i + 1), by omega, i + 1, ns, ts ++ [cf es 0], D3, rfl, (sH'.trans s6).trans sD3, rfl, by omega, fun z => ?_, hlD3, lns, fun j hj => ?_, fun k => ?_, sD3 _ _ (s6 _ _ ht8'), by simp [lts], fun j hj => ?_, fun k => ?_⟩
    · rw [z, s6 _ _ ht8'] at hD3
      cases hD3
    · rw [cns j hj, ces j (by omega), ces (j + 1) (by omega)]
      rfl
    · by_cases hk : k < n - (i + 1)
      · rw [cns k hk]
        exact Bits.add (bes k) (bes (k + 1))
      · rw [S31.cf_out (by omega)]
        exact Bits.zero
    · rw [cf_snoc]
      by_cases hk : j < ts.length
      · rw [if_pos hk]
        exact cts j (by omega)
      · have : j = i := by omega
        subst this
        rw [if_neg hk, if_pos lts.symm]
        exact ces 0 (by omega)
    · rw [cf_snoc]
      split
      · exact bts k
      · split
        · exact Bits.up (bes 0) (by omega)
        · exact Bits.zero
  · rw [List.length_map] at cc
    have hi : i = n := by omega
    subst hi
    have em2 := sH _ _ (sD2 _ _ em')
    walk_at "zz"
    have ob : Bits 8000 (c * mo) := Bits.up (cb.mul mbo) (by omega)
    refine z_repU cb mbo (by omega) ?_
    walk_at "zz"
    refine k _ _ _ ts _ (cr ms mo) (by walk_at "sm") (by assumption) (by walk_at "up") lts (Int.mul_pos c0 mo0) ob (fun k => Bits.up (bts k) (by omega)) (fun x => by rw [mP]) (fun j hj => ?_)
    rw [cts j hj, Rat.intCast_mul]
    refine cn_tops (o := 0) (a := cr ms mo) (D := cf ds) (fun k hk => ?_) (by omega)
    obtain ⟨_, w0, w1⟩ := comb_pb (i - 1) (by omega) k (by omega)
    rw [cds k (by omega)]
    have e1 : (c / pb (i - 1) k) * pb (i - 1) k = c := Int.ediv_mul_cancel (cd k (by omega))
    have e2 : ((c / pb (i - 1) k : Int) : Rat) * (pb (i - 1) k : Rat) = (c : Rat) := by rw [← Rat.intCast_mul, e1]
    have e3 : (mo : Rat) * cr ms mo k = (cf ms k : Rat) := by
      have := ne_cast (show mo ≠ 0 by omega)
      show (mo : Rat) * ((cf ms k : Rat) / (mo : Rat)) = _
      grind
    rw [e3, Rat.intCast_mul, ← e2]
    grind
theorem c_corner_tops (L : Lw K mg) : Cal P w K mg base 8 "corner_tops" (sp3 (fs_ctops K)) [] := by
  obtain ⟨fd, F⟩ := L.d_corner_tops
  exact ⟨⟨_, fd, ["poly", "low", "high"], [], ok_corner_tops L F, L.g_corner_tops, F.kp, F.bindsN (fun _ _ _ _ _ _ us hl => match us, hl with | [_, _, _], _ => rfl), .nil⟩⟩
end
end T

set_option maxHeartbeats 4000000
namespace T
open PySem PySem.Spec PyProof.Rows L2 Z
/-! the readings' steps, as one word: walk_at "z" (one step), "zz" (as far as it goes), "up" (a fact carried here) -/
local macro_rules | `(tactic| walk_at "up") => `(tactic| first
  | assumption
  | (refine' IsR.mono (by assumption) ?zup; case zup => walk_at "up")
  | (refine' IsE.mono (by assumption) ?zup; case zup => walk_at "up")
  | (refine' Same.at (by assumption) ?zup; case zup => walk_at "up")
  | (refine' SqL.of ?zup; case zup => walk_at "up")
  | (refine' L2.Same.seq (by assumption) ?zup; case zup => walk_at "up"))
local macro_rules | `(tactic| walk_at "z") => `(tactic| first
  | ((with_reducible refine' z_var ?zvh ?_); (case zvh => exact rfl))
  | with_reducible refine z_c ?_
  | with_reducible refine z_cons ?_
  | with_reducible refine z_nil ?_
  | with_reducible refine z_op ?_
  | with_reducible refine z_nx ?_
  | with_reducible refine z_seq ?_
  | with_reducible refine z_asg ?_
  | with_reducible refine z_asgG ?_
  | with_reducible refine z_call ?_
  | with_reducible refine z_sq0 ?_
  | with_reducible refine z_sq1 ?_
  | with_reducible refine z_ifS ?_
  | with_reducible refine z_test ?_
  | with_reducible refine z_tb ?_
  | with_reducible refine z_bl ?_
  | with_reducible refine z_blI ?_
  | with_reducible refine z_ret ?_
  | with_reducible refine z_rt ?_
  | with_reducible refine z_T ?_
  | with_reducible refine z_F ?_
  | with_reducible refine z_add ?_
  | with_reducible refine z_sub ?_
  | with_reducible refine z_neg ?_
  | with_reducible refine z_un ?_
  | with_reducible refine z_eqI ?_
  | with_reducible refine z_neI ?_
  | with_reducible refine z_lt ?_
  | with_reducible refine z_le ?_
  | with_reducible refine z_gt ?_
  | with_reducible refine z_ge ?_
  | with_reducible refine z_not ?_
  | with_reducible refine z_and ?_
  | with_reducible refine z_or ?_
  | with_reducible refine z_andV ?_
  | with_reducible refine z_orV ?_
  | with_reducible refine z_notV ?_
  | with_reducible refine z_if ?_
  | with_reducible refine z_cb ?_
  | with_reducible refine z_int1 ?_
  | with_reducible refine z_intb ?_
  | with_reducible refine z_abs ?_
  | with_reducible refine z_gcd ?_
  | with_reducible refine z_isi_ii ?_
  | with_reducible refine z_isi_ib ?_
  | with_reducible refine z_next ?_
  | with_reducible refine z_drop ?_
  | with_reducible refine z_par ?_
  | with_reducible refine z_par2 ?_
  | with_reducible refine z_tupN ?_
  | with_reducible refine z_lstN ?_
  | ((with_reducible refine' z_nt ?zl1 ?_); (case zl1 => exact Nat.le_of_ble_eq_true rfl); intro p H' hp hs he)
  | ((with_reducible refine' z_gtup ?zl1 ?zl2 ?_); (case zl1 => walk_at "up"); (case zl2 => exact rfl))
  | with_reducible refine z_bk ?_
  | with_reducible refine z_ct ?_
  | with_reducible refine z_break ?_
  | with_reducible refine z_cont ?_
  | with_reducible refine z_retN ?_
  | with_reducible refine z_nn ?_
  | with_reducible refine z_mk ?_
  | with_reducible refine z_gn ?_
  | with_reducible refine z_gcons ?_
  | with_reducible refine z_gnil ?_
  | with_reducible refine z_mt ?_
  | with_reducible refine z_mko ?_
  | with_reducible refine z_for2 ?_
  | with_reducible refine z_ownI ?_
  | ((with_reducible refine' z_lenL ?zl1 ?_); (case zl1 => walk_at "up"))
  | ((with_reducible refine' z_ixT ?zl1 ?zl2 ?_); (case zl1 => walk_at "up"); (case zl2 => exact rfl))
  | ((with_reducible refine' z_mulL ?zl1 ?zl2 ?_); (case zl1 => omega); (case zl2 => omega))
  | ((with_reducible refine' z_mulR ?zl1 ?zl2 ?_); (case zl1 => omega); (case zl2 => omega))
  | ((with_reducible refine' z_divS ?zl1 ?zl2 ?_); (case zl1 => omega); (case zl2 => omega))
  | ((with_reducible refine' z_mulW ?zl1 ?zl2 ?zl3 ?zl4 ?_); (case zl1 => omega); (case zl2 => omega); (case zl3 => omega); (case zl4 => omega))
  | ((with_reducible refine' z_divW ?zl1 ?zl2 ?_); (case zl1 => omega); (case zl2 => omega)))
local macro_rules | `(tactic| walk_at "zz") => `(tactic| repeat (walk_at "z"))
local macro_rules | `(tactic| walk_at "z") => `(tactic| with_reducible refine z_lstN ?_)
local macro_rules | `(tactic| walk_at "z") => `(tactic| with_reducible refine z_p6 ?_)
local macro_rules | `(tactic| walk_at "z") => `(tactic| with_reducible refine z_p12 ?_)
local macro_rules | `(tactic| walk_at "z") => `(tactic| with_reducible refine z_p13 ?_)
local macro_rules | `(tactic| walk_at "z") => `(tactic| with_reducible refine z_calln ?_)
local macro_rules | `(tactic| walk_at "z") => `(tactic| with_reducible refine z_xfS ?_)
local macro_rules | `(tactic| walk_at "z") => `(tactic| with_reducible refine z_lcS ?_)
local macro_rules | `(tactic| walk_at "z") => `(tactic| with_reducible refine z_lcRS ?_)
local macro_rules | `(tactic| walk_at "z") => `(tactic| with_reducible refine z_lcZS ?_)
local macro_rules | `(tactic| walk_at "z") => `(tactic| with_reducible refine z_foS ?_)
local macro_rules | `(tactic| walk_at "z") => `(tactic| with_reducible refine z_for1 ?_)
local macro_rules | `(tactic| walk_at "z") => `(tactic| with_reducible refine z_tsl ?_)
local macro_rules | `(tactic| walk_at "z") => `(tactic| with_reducible refine z_np ?_)
local macro_rules | `(tactic| walk_at "z") => `(tactic| with_reducible refine z_pt ?_)
local macro_rules | `(tactic| walk_at "z") => `(tactic| with_reducible refine z_pti ?_)
local macro_rules | `(tactic| walk_at "z") => `(tactic| with_reducible refine z_catI ?_)
local macro_rules | `(tactic| walk_at "z") => `(tactic| with_reducible refine z_isNI ?_)
local macro_rules | `(tactic| walk_at "z") => `(tactic| with_reducible refine z_isNN ?_)
local macro_rules | `(tactic| walk_at "z") => `(tactic| with_reducible refine z_notNI ?_)
local macro_rules | `(tactic| walk_at "z") => `(tactic| with_reducible refine z_notNN ?_)
local macro_rules | `(tactic| walk_at "z") => `(tactic| with_reducible refine z_gsub ?_)
local macro_rules | `(tactic| walk_at "z") => `(tactic| with_reducible refine z_isNb ?_)
local macro_rules | `(tactic| walk_at "z") => `(tactic| with_reducible refine z_notNb ?_)
local macro_rules | `(tactic| walk_at "z") => `(tactic| ((with_reducible refine' z_nlR ?zl1 ?_); (case zl1 => exact Nat.le_of_ble_eq_true rfl); intro p H' hp hs he))
local macro_rules | `(tactic| walk_at "z") => `(tactic| ((with_reducible refine' z_repR ?zl1 ?zl2 ?_); (case zl1 => omega); (case zl2 => omega)))
local macro_rules | `(tactic| walk_at "z") => `(tactic| ((with_reducible refine' z_repL ?zl1 ?zl2 ?_); (case zl1 => omega); (case zl2 => omega)))
local macro_rules | `(tactic| walk_at "z") => `(tactic| ((with_reducible refine' z_lenLst ?zl1 ?_); (case zl1 => walk_at "up")))
local macro_rules | `(tactic| walk_at "z") => `(tactic| ((with_reducible refine' z_cat ?zl1 ?zl2 ?zl3 ?_); (case zl1 => walk_at "up"); (case zl2 => walk_at "up"); (case zl3 => (simp only [List.length_map, List.length_cons, List.length_nil, List.length_append, List.length_replicate]; omega)); intro p H' hp hs he))
local macro_rules | `(tactic| walk_at "z") => `(tactic| with_reducible refine z_sfl ?_)
local macro_rules | `(tactic| walk_at "z") => `(tactic| with_reducible refine z_lcES ?_)
local macro_rules | `(tactic| walk_at "z") => `(tactic| with_reducible refine z_lcMS ?_)
local macro_rules | `(tactic| walk_at "z") => `(tactic| with_reducible refine z_foES ?_)
local macro_rules | `(tactic| walk_at "z") => `(tactic| with_reducible refine z_fo3S ?_)
local macro_rules | `(tactic| walk_at "z") => `(tactic| with_reducible refine z_sta ?_)
local macro_rules | `(tactic| walk_at "z") => `(tactic| with_reducible refine z_sta1 ?_)
local macro_rules | `(tactic| walk_at "z") => `(tactic| with_reducible refine z_lcTS ?_)
local macro_rules | `(tactic| walk_at "z") => `(tactic| with_reducible refine z_foTS ?_)
local macro_rules | `(tactic| walk_at "z") => `(tactic| ((with_reducible refine' z_fldt ?zc1 ?zc2 ?zl1 ?zl2 ?_); (case zc1 => exact Lw.cl_Ratio (by assumption)); (case zc2 => exact Lw.na_Ratio_top (by assumption)); (case zl1 => exact rfl); (case zl2 => walk_at "up")))
local macro_rules | `(tactic| walk_at "z") => `(tactic| ((with_reducible refine' z_fldb ?zc1 ?zc2 ?zl1 ?zl2 ?_); (case zc1 => exact Lw.cl_Ratio (by assumption)); (case zc2 => exact Lw.na_Ratio_bottom (by assumption)); (case zl1 => exact rfl); (case zl2 => walk_at "up")))
local macro_rules | `(tactic| walk_at "z") => `(tactic| ((with_reducible refine' z_fldG ?zc1 ?zc2 ?zl0 ?zl1 ?zl2 ?_); (case zc1 => exact Lw.cl_Poly (by assumption)); (case zc2 => exact Lw.na_Poly_numbers (by assumption)); (case zl0 => exact rfl); (case zl1 => walk_at "up"); (case zl2 => exact lkA)))
local macro_rules | `(tactic| walk_at "z") => `(tactic| ((with_reducible refine' z_fldG ?zc1 ?zc2 ?zl0 ?zl1 ?zl2 ?_); (case zc1 => exact Lw.cl_Poly (by assumption)); (case zc2 => exact Lw.na_Poly_over (by assumption)); (case zl0 => exact rfl); (case zl1 => walk_at "up"); (case zl2 => exact lkO)))
local macro_rules | `(tactic| walk_at "z") => `(tactic| ((with_reducible refine' z_fldG ?zc1 ?zc2 ?zl0 ?zl1 ?zl2 ?_); (case zc1 => exact Lw.cl_Poly (by assumption)); (case zc2 => exact Lw.na_Poly_degree (by assumption)); (case zl0 => exact rfl); (case zl1 => walk_at "up"); (case zl2 => exact lkD)))
theorem same30g {H H1 H2 : Hp} (h : Same H1 H2) (e : Same H H1) : Same H H2 := e.trans h
local macro_rules | `(tactic| walk_at "sm") => `(tactic| first
  | assumption
  | exact fun _ _ h => h
  | (refine' same30g (by assumption) ?zsm; case zsm => walk_at "sm"))
local macro_rules | `(tactic| walk_at "up") => `(tactic| first
  | assumption
  | (with_reducible refine' IsR.mono (by assumption) ?zup; case zup => walk_at "up")
  | (with_reducible refine' IsV.mono (by assumption) ?zup; case zup => walk_at "up")
  | (with_reducible refine' IsQ.mono (by assumption) ?zup; case zup => walk_at "up")
  | (with_reducible refine' PQ.mono (by assumption) ?zup; case zup => walk_at "up")
  | (with_reducible refine' RL.mono (by assumption) ?zup; case zup => walk_at "up")
  | (with_reducible refine' PL.mono (by assumption) ?zup; case zup => walk_at "up")
  | (with_reducible refine' Same.at (by assumption) ?zup; case zup => walk_at "up")
  | fail)

open S31 (cf pb)
open S30
theorem u_mtV {K : Frag} {H : Hp} {p : Addr} {v : Rat} {B : Nat} {m : Str} {R : Prop} (h : IsV K H p v B) (q : R) (h1 : ¬ m = "top" := by decide +kernel) (h2 : ¬ m = "bottom" := by decide +kernel) : zMt (He.ga K "Ratio") m (.ref p) H R := by
  obtain ⟨t, b, hr, _⟩ := h
  exact z_mtR hr q h1 h2
theorem cmp_ge {v w : Rat} : (0 ≤ cmpQ v w) ↔ ¬ v < w := by
  unfold cmpQ
  constructor
  · intro h c
    rw [if_pos c] at h
    omega
  · intro h
    rw [if_neg h]
    split <;> omega
def fs_cnum (K : Frag) : F3 := fun a c e H Q E => ∃ (p r s : Addr) (n : Nat) (P : Rat → Rat) (v w : Rat), a = .ref p ∧ c = .ref r ∧ e = .ref s ∧ PQ K H p n 20 P ∧ n ≤ 13 ∧ IsV K H r v 12 ∧ IsV K H s w 12 ∧
  (v < w → ∀ l H' A, Same H H' → (∀ x : Rat, S30.E A x n = P (v + (w - v) * x)) → RL K H' l n (cn (n - 1) A) 8000 → H l = none → Q (.ref l) H') ∧
  (¬ v < w → ∀ d H', Same H H' → H' d = some (.xd [("high", .ref s), ("low", .ref r)]) → E (.ref (He.ga K "Crossed")) (some d) H')
section
variable {P : Program} {w : World} {K : Frag} {mg : Str → Option Value} {base : Heap}
theorem ok_corner_numbers (L : Lw K mg) {fd : FuncData} (F : FunD K "corner_numbers" "corner_numbers" (defArgs s_corner_numbers) (defBody s_corner_numbers) (defScope s_corner_numbers) (df_corner_numbers.dvs K) (df_corner_numbers.kws K) (He.fAd K ("corner_numbers", none)) fd) : FnOk P w K mg base (L2N.CX P w) 9 (He.fAd K ("corner_numbers", none)) fd (["poly", "low", "high"] : List Str) (sp3 (fs_cnum K)) := by
  refine FunD.ok F sc_corner_numbers len3 (fun cdv A outer s H vs Q E hr h => ?_)
  obtain ⟨a, b, c, rfl, h⟩ := h
  refine ⟨_, (pss_cons (ps_if (pt_cmpR o_ge (pe_mt (c_Ratio_compare (K := K) L) hr (by decide) (L2N.takes_of rfl rfl rfl rfl) (pv 1) (pa_cons (pv 2) pa_nil)) pe_int (nomark _)) (pss_one (L2N.ps_raise rfl (L2N.takes_of rfl rfl rfl rfl) (pmk_x (c_CrossedD_initD (K := K) L) hr (by decide) passF (pa_cons (pv 1) (pa_cons (pv 2) pa_nil))))) pss_nil)
    (pss_cons (ps_asg (pe_c (c_corner_tops (K := K) L) hr (by decide) (L2N.takes_of rfl rfl rfl rfl) (pa_cons (pv 0) (pa_cons (pv 1) (pa_cons (pv 2) pa_nil)))) (pg_tup (by rfl) (pgs_cons (pg_name (i := 3) sc_corner_numbers.nd rfl (by first | exact Or.inl rfl | exact Or.inr rfl)) (pgs_cons (pg_name (i := 4) sc_corner_numbers.nd rfl (by first | exact Or.inl rfl | exact Or.inr rfl)) pgs_nil))))
    (pss_one (ps_ret (pe_lc (own := [("top", 5)]) (g := (gName 5)) (tt := tYes) rfl sc_corner_numbers.nd (pi_listK (K := K) rfl (pv 3)) (blkOk_by (N := ["poly", "low", "high", "tops", "bottom", "top"]) (sc := defScope s_corner_numbers) (by decide +kernel)) (fun _ _ _ _ _ => pg_name (i := 5) sc_corner_numbers.nd rfl (Or.inl rfl)) (fun _ _ _ _ _ => pts_nil) (fun _ _ _ _ _ => (pe_mk (c_RatioD_initD (K := K) L) hr (by decide) takesF (pa_cons (pv 5) (pa_cons (pv 4) pa_nil))))))))), ?_⟩
  obtain ⟨p, r, s, n, P, v, w, rfl, rfl, rfl, hp, n13, hv, hw, k, kx⟩ := h
  walk_at "zz"
  refine u_mtV hv ?_
  walk_at "zz"
  refine ⟨_, _, rfl, r, s, v, w, 12, rfl, rfl, hv, hw, by decide, by decide, ?_⟩
  walk_at "zz"
  refine z_d2 (fun c => ?_) (fun c => ?_)
  · walk_at "zz"
    exact z_exo2 (kx (cmp_ge.mp c))
  have vw : v < w := by
    by_cases q : v < w
    · exact q
    · exact absurd (cmp_ge.mpr q) c
  walk_at "zz"
  refine ⟨_, _, _, rfl, p, r, s, n, P, v, w, rfl, rfl, rfl, hp, n13, hv, hw, vw, fun t l H1 ts o A s1 et el lts o0 ob tb hA ht => ?_⟩
  walk_at "zz"
  refine z_lcVP (itR K (cn (n - 1) A) 8000) itR_mono el (by rw [List.length_map]; omega) (fun j x H4 N hx s4 c4 => ⟨rfl, ?_⟩) (fun D HD hD sD hlD => ?_)
  · obtain ⟨hj, rfl⟩ := map_at hx
    walk_at "zz"
    exact u_mkV (v := cn (n - 1) A j) (B := 8000) o0 (ob.up (by decide)) (tb j) ob (ht j (by omega)) fun q H5 s5 hq => c4 _ _ s5 ⟨q, rfl, hq⟩
  · rw [List.length_map, lts] at hlD
    walk_at "zz"
    exact k vw D HD A (s1.trans sD) hA hlD (Same.none s1 hD)
theorem c_corner_numbers (L : Lw K mg) : Cal P w K mg base 9 "corner_numbers" (sp3 (fs_cnum K)) [] := by
  obtain ⟨fd, F⟩ := L.d_corner_numbers
  exact ⟨⟨_, fd, ["poly", "low", "high"], [], ok_corner_numbers L F, L.g_corner_numbers, F.kp, F.bindsN (fun _ _ _ _ _ _ us hl => match us, hl with | [_, _, _], _ => rfl), .nil⟩⟩
end
def fs_mte (K : Frag) : F3 := fun a c e H Q _ => ∃ (p r : Addr) (n : Nat) (P : Rat → Rat) (v : Rat) (u : Bool), a = .ref p ∧ c = .ref r ∧ e = .bl u ∧ PQ K H p n 20 P ∧ n ≤ 13 ∧ IsV K H r v 12 ∧ ∀ x H', Same H H' → PQ K H' x n 7020 (fun x => P (v + (if u then 1 else -1) * x)) → Q (.ref x) H'
def fs_ends (K : Frag) : F3 := fun a c e H Q _ => ∃ (p r : Addr) (n : Nat) (P : Rat → Rat) (v : Rat) (u : Bool), a = .ref p ∧ c = .ref r ∧ e = .bl u ∧ PQ K H p n 20 P ∧ n ≤ 13 ∧ IsV K H r v 12 ∧
  ∀ l H' A, Same H H' → (∀ x : Rat, S30.E A x n = P (v + (if u then 1 else -1) * x)) → RL K H' l n A 8000 → Q (.ref l) H'
theorem PQ.imp {K : Frag} {H : Hp} {p : Addr} {n N M : Nat} {P P' : Rat → Rat} (h : PQ K H p n N P) (hN : N ≤ M) (e : ∀ x, P x = P' x) : PQ K H p n M P' := by
  obtain ⟨ls, o, h1, h2, h3, h4, h5, h6, h7⟩ := h
  exact ⟨ls, o, h1, h2, h3, h4.up hN, fun k => (h5 k).up hN, h6, fun x => (h7 x).trans (e x)⟩
section
variable {P : Program} {w : World} {K : Frag} {mg : Str → Option Value} {base : Heap}
theorem ok_moved_to_end (L : Lw K mg) {fd : FuncData} (F : FunD K "moved_to_end" "moved_to_end" (defArgs s_moved_to_end) (defBody s_moved_to_end) (defScope s_moved_to_end) (df_moved_to_end.dvs K) (df_moved_to_end.kws K) (He.fAd K ("moved_to_end", none)) fd) : FnOk P w K mg base (L2N.CX P w) 8 (He.fAd K ("moved_to_end", none)) fd (["poly", "ratio", "upward"] : List Str) (sp3 (fs_mte K)) := by
  refine FunD.ok F sc_moved_to_end len3 (fun cdv A outer s H vs Q E hr h => ?_)
  obtain ⟨a, b, c, rfl, h⟩ := h
  refine ⟨_, (pss_cons (ps_set (i := 3) sc_moved_to_end.nd rfl (by first | exact Or.inl rfl | exact Or.inr rfl) (pe_mt (c_Poly_shifted (K := K) L) hr (by decide) (L2N.takes_of rfl rfl rfl rfl) (pv 0) (pa_cons (pv 1) pa_nil)))
    (pss_one (ps_ret (pe_ifExp (pt_val (pv 2)) (pv 3) (pe_mt (c_Poly_stretched (K := K) L) hr (by decide) (L2N.takes_of rfl rfl rfl rfl) (pv 3) (pa_cons (pe_mk (c1_RatioD_initD (K := K) L) hr (by decide) (L2N.takes_of rfl rfl rfl rfl) (pa_cons (pe_un o_neg pe_int) pa_nil)) pa_nil)))))), ?_⟩
  obtain ⟨p, r, n, P, v, u, rfl, rfl, rfl, hp, n13, hv, k⟩ := h
  walk_at "zz"
  refine u_mtPQ hp ?_
  walk_at "zz"
  refine u_shift hp n13 (by decide) (hv.up (by decide)) (fun q1 H1 s1 hq1 => ?_)
  walk_at "zz"
  cases u with
  | true =>
    refine z_T ?_
    walk_at "zz"
    exact k q1 H1 s1 (hq1.imp (by decide) fun x => by
      show P (v + x) = P (v + 1 * x)
      congr 1
      grind)
  | false =>
    refine z_F ?_
    walk_at "zz"
    refine u_mtPQ hq1 ?_
    walk_at "zz"
    refine z_mkR1 (fun q2 H2 s2 hr => ?_)
    walk_at "zz"
    refine u_stretch (v := -1) (hq1.mono s2) n13 (by decide) ⟨-1, 1, hr, by decide, Bits.up (Bits.small (n := 1) (by decide) (by decide)) (by decide), Bits.up (Bits.small (n := 1) (by decide) (by decide)) (by decide), (by rw [show ((1 : Int) : Rat) = 1 from rfl, show ((-1 : Int) : Rat) = -1 from rfl]; grind)⟩ (by decide) (fun q3 H3 s3 hq3 => ?_)
    walk_at "zz"
    exact k q3 H3 (((s1.trans s2)).trans s3) (hq3.imp (by decide) fun x => rfl)
theorem c_moved_to_end (L : Lw K mg) : Cal P w K mg base 8 "moved_to_end" (sp3 (fs_mte K)) [] := by
  obtain ⟨fd, F⟩ := L.d_moved_to_end
  exact ⟨⟨_, fd, ["poly", "ratio", "upward"], [], ok_moved_to_end L F, L.g_moved_to_end, F.kp, F.bindsN (fun _ _ _ _ _ _ us hl => match us, hl with | [_, _, _], _ => rfl), .nil⟩⟩
theorem ok_end_numbers (L : Lw K mg) {fd : FuncData} (F : FunD K "end_numbers" "end_numbers" (defArgs s_end_numbers) (defBody s_end_numbers) (defScope s_end_numbers) (df_end_numbers.dvs K) (df_end_numbers.kws K) (He.fAd K ("end_numbers", none)) fd) : FnOk P w K mg base (L2N.CX P w) 9 (He.fAd K ("end_numbers", none)) fd (["poly", "ratio", "upward"] : List Str) (sp3 (fs_ends K)) := by
  refine FunD.ok F sc_end_numbers len3 (fun cdv A outer s H vs Q E hr h => ?_)
  obtain ⟨a, b, c, rfl, h⟩ := h
  refine ⟨_, (pss_cons (ps_set (i := 3) sc_end_numbers.nd rfl (by first | exact Or.inl rfl | exact Or.inr rfl) (pe_c (c_moved_to_end (K := K) L) hr (by decide) (L2N.takes_of rfl rfl rfl rfl) (pa_cons (pv 0) (pa_cons (pv 1) (pa_cons (pv 2) pa_nil)))))
    (pss_one (ps_ret (pe_lc (own := [("number", 4)]) (g := (gName 4)) (tt := tYes) rfl sc_end_numbers.nd (pi_tupK (K := K) rfl (pe_fld (pv 3) rfl)) (blkOk_by (N := ["poly", "ratio", "upward", "moved", "number"]) (sc := defScope s_end_numbers) (by decide +kernel)) (fun _ _ _ _ _ => pg_name (i := 4) sc_end_numbers.nd rfl (Or.inl rfl)) (fun _ _ _ _ _ => pts_nil) (fun _ _ _ _ _ => (pe_mk (c_RatioD_initD (K := K) L) hr (by decide) takesF (pa_cons (pv 4) (pa_cons (pe_fldK (K := K) rfl (pv 3) rfl) pa_nil)))))))), ?_⟩
  obtain ⟨p, r, n, P, v, u, rfl, rfl, rfl, hp, n13, hv, k⟩ := h
  walk_at "zz"
  refine ⟨_, _, _, rfl, p, r, n, P, v, u, rfl, rfl, rfl, hp, n13, hv, fun q H1 s1 ⟨ms, mo, ⟨dm, tm, em, etm⟩, hml, mo0, mbo, mbl, _, mP⟩ => ?_⟩
  walk_at "zz"
  refine z_lcTP (itR K (cr ms mo) 8000) itR_mono etm (by rw [List.length_map]; omega) (fun j x H4 N hx s4 c4 => ⟨rfl, ?_⟩) (fun D HD hD sD hlD => ?_)
  · obtain ⟨hj, rfl⟩ := map_at hx
    walk_at "zz"
    refine u_mkV (v := cr ms mo j) (B := 8000) mo0 (mbo.up (by decide)) ((mbl j).up (by decide)) (mbo.up (by decide)) ?_ fun q H5 s5 hq => c4 _ _ s5 ⟨q, rfl, hq⟩
    have := ne_cast (show mo ≠ 0 by omega)
    show (cf ms j : Rat) = (cf ms j : Rat) / (mo : Rat) * (mo : Rat)
    grind
  · rw [List.length_map, hml] at hlD
    walk_at "zz"
    exact k D HD (cr ms mo) (s1.trans sD) mP hlD
theorem c_end_numbers (L : Lw K mg) : Cal P w K mg base 9 "end_numbers" (sp3 (fs_ends K)) [] := by
  obtain ⟨fd, F⟩ := L.d_end_numbers
  exact ⟨⟨_, fd, ["poly", "ratio", "upward"], [], ok_end_numbers L F, L.g_end_numbers, F.kp, F.bindsN (fun _ _ _ _ _ _ us hl => match us, hl with | [_, _, _], _ => rfl), .nil⟩⟩
end
end T

set_option maxHeartbeats 4000000
namespace T
open PySem PySem.Spec PyProof.Rows L2 Z
/-! the readings' steps, as one word: walk_at "z" (one step), "zz" (as far as it goes), "up" (a fact carried here) -/
local macro_rules | `(tactic| walk_at "up") => `(tactic| first
  | assumption
  | (refine' IsR.mono (by assumption) ?zup; case zup => walk_at "up")
  | (refine' IsE.mono (by assumption) ?zup; case zup => walk_at "up")
  | (refine' Same.at (by assumption) ?zup; case zup => walk_at "up")
  | (refine' SqL.of ?zup; case zup => walk_at "up")
  | (refine' L2.Same.seq (by assumption) ?zup; case zup => walk_at "up"))
local macro_rules | `(tactic| walk_at "z") => `(tactic| first
  | ((with_reducible refine' z_var ?zvh ?_); (case zvh => exact rfl))
  | with_reducible refine z_c ?_
  | with_reducible refine z_cons ?_
  | with_reducible refine z_nil ?_
  | with_reducible refine z_op ?_
  | with_reducible refine z_nx ?_
  | with_reducible refine z_seq ?_
  | with_reducible refine z_asg ?_
  | with_reducible refine z_asgG ?_
  | with_reducible refine z_call ?_
  | with_reducible refine z_sq0 ?_
  | with_reducible refine z_sq1 ?_
  | with_reducible refine z_ifS ?_
  | with_reducible refine z_test ?_
  | with_reducible refine z_tb ?_
  | with_reducible refine z_bl ?_
  | with_reducible refine z_blI ?_
  | with_reducible refine z_ret ?_
  | with_reducible refine z_rt ?_
  | with_reducible refine z_T ?_
  | with_reducible refine z_F ?_
  | with_reducible refine z_add ?_
  | with_reducible refine z_sub ?_
  | with_reducible refine z_neg ?_
  | with_reducible refine z_un ?_
  | with_reducible refine z_eqI ?_
  | with_reducible refine z_neI ?_
  | with_reducible refine z_lt ?_
  | with_reducible refine z_le ?_
  | with_reducible refine z_gt ?_
  | with_reducible refine z_ge ?_
  | with_reducible refine z_not ?_
  | with_reducible refine z_and ?_
  | with_reducible refine z_or ?_
  | with_reducible refine z_andV ?_
  | with_reducible refine z_orV ?_
  | with_reducible refine z_notV ?_
  | with_reducible refine z_if ?_
  | with_reducible refine z_cb ?_
  | with_reducible refine z_int1 ?_
  | with_reducible refine z_intb ?_
  | with_reducible refine z_abs ?_
  | with_reducible refine z_gcd ?_
  | with_reducible refine z_isi_ii ?_
  | with_reducible refine z_isi_ib ?_
  | with_reducible refine z_next ?_
  | with_reducible refine z_drop ?_
  | with_reducible refine z_par ?_
  | with_reducible refine z_par2 ?_
  | with_reducible refine z_tupN ?_
  | with_reducible refine z_lstN ?_
  | ((with_reducible refine' z_nt ?zl1 ?_); (case zl1 => exact Nat.le_of_ble_eq_true rfl); intro p H' hp hs he)
  | ((with_reducible refine' z_gtup ?zl1 ?zl2 ?_); (case zl1 => walk_at "up"); (case zl2 => exact rfl))
  | with_reducible refine z_bk ?_
  | with_reducible refine z_ct ?_
  | with_reducible refine z_break ?_
  | with_reducible refine z_cont ?_
  | with_reducible refine z_retN ?_
  | with_reducible refine z_nn ?_
  | with_reducible refine z_mk ?_
  | with_reducible refine z_gn ?_
  | with_reducible refine z_gcons ?_
  | with_reducible refine z_gnil ?_
  | with_reducible refine z_mt ?_
  | with_reducible refine z_mko ?_
  | with_reducible refine z_for2 ?_
  | with_reducible refine z_ownI ?_
  | ((with_reducible refine' z_lenL ?zl1 ?_); (case zl1 => walk_at "up"))
  | ((with_reducible refine' z_ixT ?zl1 ?zl2 ?_); (case zl1 => walk_at "up"); (case zl2 => exact rfl))
  | ((with_reducible refine' z_mulL ?zl1 ?zl2 ?_); (case zl1 => omega); (case zl2 => omega))
  | ((with_reducible refine' z_mulR ?zl1 ?zl2 ?_); (case zl1 => omega); (case zl2 => omega))
  | ((with_reducible refine' z_divS ?zl1 ?zl2 ?_); (case zl1 => omega); (case zl2 => omega))
  | ((with_reducible refine' z_mulW ?zl1 ?zl2 ?zl3 ?zl4 ?_); (case zl1 => omega); (case zl2 => omega); (case zl3 => omega); (case zl4 => omega))
  | ((with_reducible refine' z_divW ?zl1 ?zl2 ?_); (case zl1 => omega); (case zl2 => omega)))
local macro_rules | `(tactic| walk_at "zz") => `(tactic| repeat (walk_at "z"))
local macro_rules | `(tactic| walk_at "z") => `(tactic| with_reducible refine z_lstN ?_)
local macro_rules | `(tactic| walk_at "z") => `(tactic| with_reducible refine z_p6 ?_)
local macro_rules | `(tactic| walk_at "z") => `(tactic| with_reducible refine z_p12 ?_)
local macro_rules | `(tactic| walk_at "z") => `(tactic| with_reducible refine z_p13 ?_)
local macro_rules | `(tactic| walk_at "z") => `(tactic| with_reducible refine z_calln ?_)
local macro_rules | `(tactic| walk_at "z") => `(tactic| with_reducible refine z_xfS ?_)
local macro_rules | `(tactic| walk_at "z") => `(tactic| with_reducible refine z_lcS ?_)
local macro_rules | `(tactic| walk_at "z") => `(tactic| with_reducible refine z_lcRS ?_)
local macro_rules | `(tactic| walk_at "z") => `(tactic| with_reducible refine z_lcZS ?_)
local macro_rules | `(tactic| walk_at "z") => `(tactic| with_reducible refine z_foS ?_)
local macro_rules | `(tactic| walk_at "z") => `(tactic| with_reducible refine z_for1 ?_)
local macro_rules | `(tactic| walk_at "z") => `(tactic| with_reducible refine z_tsl ?_)
local macro_rules | `(tactic| walk_at "z") => `(tactic| with_reducible refine z_np ?_)
local macro_rules | `(tactic| walk_at "z") => `(tactic| with_reducible refine z_pt ?_)
local macro_rules | `(tactic| walk_at "z") => `(tactic| with_reducible refine z_pti ?_)
local macro_rules | `(tactic| walk_at "z") => `(tactic| with_reducible refine z_catI ?_)
local macro_rules | `(tactic| walk_at "z") => `(tactic| with_reducible refine z_isNI ?_)
local macro_rules | `(tactic| walk_at "z") => `(tactic| with_reducible refine z_isNN ?_)
local macro_rules | `(tactic| walk_at "z") => `(tactic| with_reducible refine z_notNI ?_)
local macro_rules | `(tactic| walk_at "z") => `(tactic| with_reducible refine z_notNN ?_)
local macro_rules | `(tactic| walk_at "z") => `(tactic| with_reducible refine z_gsub ?_)
local macro_rules | `(tactic| walk_at "z") => `(tactic| with_reducible refine z_isNb ?_)
local macro_rules | `(tactic| walk_at "z") => `(tactic| with_reducible refine z_notNb ?_)
local macro_rules | `(tactic| walk_at "z") => `(tactic| ((with_reducible refine' z_nlR ?zl1 ?_); (case zl1 => exact Nat.le_of_ble_eq_true rfl); intro p H' hp hs he))
local macro_rules | `(tactic| walk_at "z") => `(tactic| ((with_reducible refine' z_repR ?zl1 ?zl2 ?_); (case zl1 => omega); (case zl2 => omega)))
local macro_rules | `(tactic| walk_at "z") => `(tactic| ((with_reducible refine' z_repL ?zl1 ?zl2 ?_); (case zl1 => omega); (case zl2 => omega)))
local macro_rules | `(tactic| walk_at "z") => `(tactic| ((with_reducible refine' z_lenLst ?zl1 ?_); (case zl1 => walk_at "up")))
local macro_rules | `(tactic| walk_at "z") => `(tactic| ((with_reducible refine' z_cat ?zl1 ?zl2 ?zl3 ?_); (case zl1 => walk_at "up"); (case zl2 => walk_at "up"); (case zl3 => (simp only [List.length_map, List.length_cons, List.length_nil, List.length_append, List.length_replicate]; omega)); intro p H' hp hs he))
local macro_rules | `(tactic| walk_at "z") => `(tactic| with_reducible refine z_sfl ?_)
local macro_rules | `(tactic| walk_at "z") => `(tactic| with_reducible refine z_lcES ?_)
local macro_rules | `(tactic| walk_at "z") => `(tactic| with_reducible refine z_lcMS ?_)
local macro_rules | `(tactic| walk_at "z") => `(tactic| with_reducible refine z_foES ?_)
local macro_rules | `(tactic| walk_at "z") => `(tactic| with_reducible refine z_fo3S ?_)
local macro_rules | `(tactic| walk_at "z") => `(tactic| with_reducible refine z_sta ?_)
local macro_rules | `(tactic| walk_at "z") => `(tactic| with_reducible refine z_sta1 ?_)
local macro_rules | `(tactic| walk_at "z") => `(tactic| with_reducible refine z_lcTS ?_)
local macro_rules | `(tactic| walk_at "z") => `(tactic| with_reducible refine z_foTS ?_)
local macro_rules | `(tactic| walk_at "z") => `(tactic| ((with_reducible refine' z_fldt ?zc1 ?zc2 ?zl1 ?zl2 ?_); (case zc1 => exact Lw.cl_Ratio (by assumption)); (case zc2 => exact Lw.na_Ratio_top (by assumption)); (case zl1 => exact rfl); (case zl2 => walk_at "up")))
local macro_rules | `(tactic| walk_at "z") => `(tactic| ((with_reducible refine' z_fldb ?zc1 ?zc2 ?zl1 ?zl2 ?_); (case zc1 => exact Lw.cl_Ratio (by assumption)); (case zc2 => exact Lw.na_Ratio_bottom (by assumption)); (case zl1 => exact rfl); (case zl2 => walk_at "up")))
local macro_rules | `(tactic| walk_at "z") => `(tactic| ((with_reducible refine' z_fldG ?zc1 ?zc2 ?zl0 ?zl1 ?zl2 ?_); (case zc1 => exact Lw.cl_Poly (by assumption)); (case zc2 => exact Lw.na_Poly_numbers (by assumption)); (case zl0 => exact rfl); (case zl1 => walk_at "up"); (case zl2 => exact lkA)))
local macro_rules | `(tactic| walk_at "z") => `(tactic| ((with_reducible refine' z_fldG ?zc1 ?zc2 ?zl0 ?zl1 ?zl2 ?_); (case zc1 => exact Lw.cl_Poly (by assumption)); (case zc2 => exact Lw.na_Poly_over (by assumption)); (case zl0 => exact rfl); (case zl1 => walk_at "up"); (case zl2 => exact lkO)))
local macro_rules | `(tactic| walk_at "z") => `(tactic| ((with_reducible refine' z_fldG ?zc1 ?zc2 ?zl0 ?zl1 ?zl2 ?_); (case zc1 => exact Lw.cl_Poly (by assumption)); (case zc2 => exact Lw.na_Poly_degree (by assumption)); (case zl0 => exact rfl); (case zl1 => walk_at "up"); (case zl2 => exact lkD)))
theorem same30h {H H1 H2 : Hp} (h : Same H1 H2) (e : Same H H1) : Same H H2 := e.trans h
local macro_rules | `(tactic| walk_at "sm") => `(tactic| first
  | assumption
  | exact fun _ _ h => h
  | (refine' same30h (by assumption) ?zsm; case zsm => walk_at "sm"))

open S31 (cf pb)
open S30
/-- .. tops and bottoms with bounds of their own -/
def itRB (K : Frag) (v : Sq) (B C : Nat) : Hp → V → Nat → Prop := fun H x k => ∃ (a : Addr) (t b : Int), x = .ref a ∧ IsR K H a t b ∧ 0 < b ∧ Bits B t ∧ Bits C b ∧ (t : Rat) = v k * (b : Rat)
def itPB (v : Sq) (B C : Nat) : Hp → V → Nat → Prop := fun H x k => ∃ (a : Addr) (t b : Int), x = .ref a ∧ H a = some (.tup [.int t, .int b]) ∧ 0 < b ∧ Bits B t ∧ Bits C b ∧ (t : Rat) = v k * (b : Rat)
theorem itRB_mono {K : Frag} {v : Sq} {B C : Nat} : Mono (itRB K v B C) := fun H H' x k s h => by
  obtain ⟨a, t, b, e, h, r⟩ := h
  exact ⟨a, t, b, e, IsR.monoN s h, r⟩
theorem itPB_mono {v : Sq} {B C : Nat} : Mono (itPB v B C) := fun H H' x k s h => by
  obtain ⟨a, t, b, e, h, r⟩ := h
  exact ⟨a, t, b, e, s _ _ h (fun _ z => nomatch z), r⟩
def RB (K : Frag) (H : Hp) (l : Addr) (n : Nat) (v : Sq) (B C : Nat) : Prop := Ls H l n (itRB K v B C)
def PB (H : Hp) (l : Addr) (n : Nat) (v : Sq) (B C : Nat) : Prop := Ls H l n (itPB v B C)
theorem RB.mono {K : Frag} {H H' : Hp} {l : Addr} {n : Nat} {v : Sq} {B C : Nat} (s : Same H H') (h : RB K H l n v B C) : RB K H' l n v B C := Ls.mono itRB_mono s h
theorem PB.mono {H H' : Hp} {l : Addr} {n : Nat} {v : Sq} {B C : Nat} (s : Same H H') (h : PB H l n v B C) : PB H' l n v B C := Ls.mono itPB_mono s h
theorem RB.toL {K : Frag} {H : Hp} {l : Addr} {n : Nat} {v w : Sq} {B C D : Nat} (h : RB K H l n v B C) (hb : B ≤ D) (hc : C ≤ D) (e : ∀ k, k < n → v k = w k) : RL K H l n w D := Ls.imp h fun x k hk ⟨a, t, b, ex, h1, h2, h3, h4, h5⟩ => ⟨a, ex, t, b, h1, h2, h3.up hb, h4.up hc, by rw [← e k hk]; exact h5⟩
theorem PB.toL {H : Hp} {l : Addr} {n : Nat} {v w : Sq} {B C D : Nat} (h : PB H l n v B C) (hb : B ≤ D) (hc : C ≤ D) (e : ∀ k, k < n → v k = w k) : PL H l n w D := Ls.imp h fun x k hk ⟨a, t, b, ex, h1, h2, h3, h4, h5⟩ => ⟨a, t, b, ex, h1, h2, h3.up hb, h4.up hc, by rw [← e k hk]; exact h5⟩
theorem W_bits {c : Nat → Int} {B : Nat} (h : ∀ k, Bits B (c k)) : ∀ i j, Bits (B + i) (W c i j)
  | 0, j => h j
  | i + 1, j => Bits.add (W_bits h i j) (W_bits h i (j + 1))
def fs_htops : F1 := fun a H Q _ => ∃ (p : Addr) (cs : List Int) (n B : Nat), a = .ref p ∧ H p = some (.lst (cs.map V.int)) ∧ cs.length = n ∧ 1 ≤ n ∧ n ≤ 60 ∧ B ≤ 100000 ∧ (∀ k, Bits B (cf cs k)) ∧
  ∀ t l u H' ls us, Same H H' → H' t = some (.tup [.ref l, .ref u]) → H' l = some (.lst (ls.map V.int)) → H' u = some (.lst (us.map V.int)) → ls.length = n → us.length = n →
    (∀ i, i < n → cf ls i = W (cf cs) i 0 * 2 ^ (n - 1 - i)) → (∀ i, i < n → cf us (n - 1 - i) = W (cf cs) i (n - 1 - i) * 2 ^ (n - 1 - i)) → Q (.ref t) H'
local macro_rules | `(tactic| walk_at "up") => `(tactic| first
  | assumption
  | (with_reducible refine' IsR.mono (by assumption) ?zup; case zup => walk_at "up")
  | (with_reducible refine' IsV.mono (by assumption) ?zup; case zup => walk_at "up")
  | (with_reducible refine' IsQ.mono (by assumption) ?zup; case zup => walk_at "up")
  | (with_reducible refine' PQ.mono (by assumption) ?zup; case zup => walk_at "up")
  | (with_reducible refine' RL.mono (by assumption) ?zup; case zup => walk_at "up")
  | (with_reducible refine' PL.mono (by assumption) ?zup; case zup => walk_at "up")
  | (with_reducible refine' RB.mono (by assumption) ?zup; case zup => walk_at "up")
  | (with_reducible refine' PB.mono (by assumption) ?zup; case zup => walk_at "up")
  | (with_reducible refine' Same.at (by assumption) ?zup; case zup => walk_at "up")
  | fail)
section
variable {P : Program} {w : World} {K : Frag} {mg : Str → Option Value} {base : Heap}
theorem ok_halved_tops (L : Lw K mg) {fd : FuncData} (F : FunD K "halved_tops" "halved_tops" (defArgs s_halved_tops) (defBody s_halved_tops) (defScope s_halved_tops) (df_halved_tops.dvs K) (df_halved_tops.kws K) (He.fAd K ("halved_tops", none)) fd) : FnOk P w K mg base (L2N.CX P w) 1 (He.fAd K ("halved_tops", none)) fd (["tops"] : List Str) (sp1 fs_htops) := by
  refine FunD.ok F sc_halved_tops len1 (fun cdv A outer s H vs Q E hr h => ?_)
  obtain ⟨a, rfl, h⟩ := h
  refine ⟨_, (pss_cons (ps_par (i := 1) (j := 2) (by rfl) sc_halved_tops.nd rfl rfl (by decide) rfl rfl (pa_cons (pe_lst pa_nil) (pa_cons (pe_lst pa_nil) pa_nil)) (by rfl))
    (pss_cons (ps_set (i := 3) sc_halved_tops.nd rfl (by first | exact Or.inl rfl | exact Or.inr rfl) (pv 0))
    (pss_cons (ps_set (i := 4) sc_halved_tops.nd rfl (by first | exact Or.inl rfl | exact Or.inr rfl) (pe_op o_sub (pe_callB (callK rLen1 (K := K) rfl o_len) (by rfl) L.f_len (by decide +kernel) (pa_cons (pv 0) pa_nil)) pe_int))
    (pss_cons (ps_while (passes_of rfl) (pt_cmpR o_ge (pv 4) pe_int (nomark _)) (pss_cons (ps_expr (pe_bm PySem.F.plainAttrs_list PySem.F.slot_list_append PySem.F.type_list_append mt_append (pv 1) (pa_cons (pe_op op_shlW (pe_ix (ix_seqK (K := K) rfl) (pv 3) pe_int (fun _ _ => rfl)) (pv 4)) pa_nil)))
    (pss_cons (ps_expr (pe_bm PySem.F.plainAttrs_list PySem.F.slot_list_append PySem.F.type_list_append mt_append (pv 2) (pa_cons (pe_op op_shlW (pe_ix (ix_seqK (K := K) rfl) (pv 3) (pe_un o_neg pe_int) (fun _ _ => rfl)) (pv 4)) pa_nil)))
    (pss_cons (ps_setLc (i := 3) (own := [("first", 5), ("second", 6)]) (g := (gTup K 2 (gCons (gName 5) (gCons (gName 6) gNil)))) (tt := tYes) rfl sc_halved_tops.nd rfl rfl (sw_true rfl rfl rfl (by decide +kernel)) (piK (fun K => iZipM K _) (K := K) rfl (pi_zipM (by rfl) L.f_zip (pa_cons (pv 3) (pa_cons (pe_slice (slK rSlL (K := K) rfl sl_list) (pv 3) (po_some pe_int) po_none) pa_nil)))) (blkOk_by (N := ["tops", "lower", "upper", "row", "shift", "first", "second"]) (sc := defScope s_halved_tops) (by decide +kernel)) (fun _ _ _ _ _ => pgK (fun K => gTup K 2 (gCons (gName 5) (gCons (gName 6) gNil))) (K := K) rfl (pg_tup rfl (pgs_cons (pg_name (i := 5) sc_halved_tops.nd rfl (Or.inl rfl)) (pgs_cons (pg_name (i := 6) sc_halved_tops.nd rfl (Or.inl rfl)) pgs_nil)))) (fun _ _ _ _ _ => pts_nil) (fun _ _ _ _ _ => (pe_op o_cat (pv 5) (pv 6))))
    (pss_one (ps_set (i := 4) sc_halved_tops.nd rfl (by first | exact Or.inl rfl | exact Or.inr rfl) (pe_op o_sub (pv 4) pe_int)))))))
    (pss_one (ps_ret (pe_tup (pa_cons (pv 1) (pa_cons (pe_revLK (K := K) rfl (pv 2)) pa_nil))))))))), ?_⟩
  obtain ⟨tp, cs, n, B, rfl, hp, lcs, n1, n60, hB, bcs, k⟩ := h
  walk_at "zz"
  rename_i lo H1 hlo s1 elo up H2 hup s2 eup
  have lu : lo ≠ up := ne_of_none elo hup
  have tlo : tp ≠ lo := ne_of_none hp hlo
  have tup' : tp ≠ up := ne_of_none (s1 _ _ hp) hup
  have hup0 : H up = none := Same.none s1 hup
  refine ⟨fun m σ' H' => ∃ (i : Nat) (es ls us : List Int) (rw_ : Addr), σ' = [some (.ref tp), some (.ref lo), some (.ref up), some (.ref rw_), some (.int ((n : Int) - 1 - i)), none, none] ∧ Same H H' ∧ m = n - i ∧ i ≤ n ∧ rw_ ≠ lo ∧ rw_ ≠ up ∧
    H' rw_ = some (.lst (es.map V.int)) ∧ es.length = n - i ∧ (∀ j, j < n - i → cf es j = W (cf cs) i j) ∧ H' lo = some (.lst (ls.map V.int)) ∧ ls.length = i ∧ (∀ j, j < i → cf ls j = W (cf cs) j 0 * 2 ^ (n - 1 - j)) ∧ H' up = some (.lst (us.map V.int)) ∧ us.length = i ∧ (∀ j, j < i → cf us j = W (cf cs) j (n - 1 - j) * 2 ^ (n - 1 - j)), ⟨_, 0, cs, [], [], tp, ?_, s1.trans s2, rfl, Nat.zero_le _, tlo, tup', s2 _ _ (s1 _ _ hp), lcs, fun j hj => rfl, s2 _ _ elo, rfl, fun j hj => absurd hj (Nat.not_lt_zero _), eup, rfl, fun j hj => absurd hj (Nat.not_lt_zero _)⟩, ?_⟩
  · rw [List.length_map, lcs]
    simp
    rfl
  rintro m σ' H' ⟨i, es, ls, us, rw_, rfl, sH, rfl, hin, ne1, ne2, h8, les, ces, hl8, lls, cls, hu8, lus, cus⟩
  walk_at "zz"
  refine z_d2 (fun cc => ?_) (fun cc => ?_)
  · have hi : i < n := by omega
    have wb : ∀ j, j < n - i → Bits (B + 60) (cf es j) := fun j hj => by
      rw [ces j hj]
      exact Bits.up (W_bits bcs i j) (by omega)
    refine ⟨_, fun _ _ h => h, ?_⟩
    walk_at "zz"
    refine z_app rfl hl8 ?_
    walk_at "zz"
    refine z_ixcf (j := 0) h8 rfl (by omega) ?_
    walk_at "zz"
    refine z_shl (n := n - 1 - i) (by omega) (wb 0 (by omega)) (by omega) ?_
    walk_at "zz"
    refine z_ap hl8 (by rw [List.length_map]; omega) ?_
    have e9 : ls.map V.int ++ [V.int (cf es 0 * 2 ^ (n - 1 - i))] = (ls ++ [cf es 0 * 2 ^ (n - 1 - i)]).map V.int := by simp
    rw [e9]
    have a1 : (upd H' lo (.lst ((ls ++ [cf es 0 * 2 ^ (n - 1 - i)]).map V.int))) rw_ = some (.lst (es.map V.int)) := by rw [upd_ne ne1]; exact h8
    have a2 : (upd H' lo (.lst ((ls ++ [cf es 0 * 2 ^ (n - 1 - i)]).map V.int))) lo = some (.lst ((ls ++ [cf es 0 * 2 ^ (n - 1 - i)]).map V.int)) := upd_same
    have a3 : (upd H' lo (.lst ((ls ++ [cf es 0 * 2 ^ (n - 1 - i)]).map V.int))) up = some (.lst (us.map V.int)) := by rw [upd_ne lu.symm]; exact hu8
    have sH5 : Same H (upd H' lo (.lst ((ls ++ [cf es 0 * 2 ^ (n - 1 - i)]).map V.int))) := Same.put sH hlo
    generalize (upd H' lo (.lst ((ls ++ [cf es 0 * 2 ^ (n - 1 - i)]).map V.int))) = H5 at *
    walk_at "zz"
    refine z_app rfl a3 ?_
    walk_at "zz"
    refine z_ixL (SqL.of a1) (at_last (m := n - 1 - i) (by omega)) ?_
    walk_at "zz"
    refine z_shl (n := n - 1 - i) (by omega) (wb _ (by omega)) (by omega) ?_
    walk_at "zz"
    refine z_ap a3 (by rw [List.length_map]; omega) ?_
    have e10 : us.map V.int ++ [V.int (cf es (n - 1 - i) * 2 ^ (n - 1 - i))] = (us ++ [cf es (n - 1 - i) * 2 ^ (n - 1 - i)]).map V.int := by simp
    rw [e10]
    have b1 : (upd H5 up (.lst ((us ++ [cf es (n - 1 - i) * 2 ^ (n - 1 - i)]).map V.int))) rw_ = some (.lst (es.map V.int)) := by rw [upd_ne ne2]; exact a1
    have b2 : (upd H5 up (.lst ((us ++ [cf es (n - 1 - i) * 2 ^ (n - 1 - i)]).map V.int))) lo = some (.lst ((ls ++ [cf es 0 * 2 ^ (n - 1 - i)]).map V.int)) := by rw [upd_ne lu]; exact a2
    have b3 : (upd H5 up (.lst ((us ++ [cf es (n - 1 - i) * 2 ^ (n - 1 - i)]).map V.int))) up = some (.lst ((us ++ [cf es (n - 1 - i) * 2 ^ (n - 1 - i)]).map V.int)) := upd_same
    have sH6 : Same H (upd H5 up (.lst ((us ++ [cf es (n - 1 - i) * 2 ^ (n - 1 - i)]).map V.int))) := Same.put sH5 hup0
    generalize (upd H5 up (.lst ((us ++ [cf es (n - 1 - i) * 2 ^ (n - 1 - i)]).map V.int))) = H6 at *
    walk_at "zz"
    refine z_sll b1 (fun d9 H7 hd9 s7 e7 => ?_)
    rw [show (1 : Int) = ((1 : Nat) : Int) from rfl, cut_lo, ← List.map_drop] at e7
    walk_at "zz"
    refine z_lcM (k1 := false) (k2 := false) (n := n - (i + 1)) (us := es.map V.int) (ys := (es.drop 1).map V.int) (fun j => V.int (cf es j + cf es (j + 1))) (fun H' s => SqK.L (s _ _ (s7 _ _ b1))) (fun H' s => SqK.L (s _ _ e7)) (by rw [List.length_map, List.length_map, List.length_drop]; omega) (by omega) (fun j x y H4 N hx hy s4 c4 => ⟨rfl, ?_⟩) (fun D3 HD3 hD3 sD3 hlD3 => ?_)
    · obtain ⟨hj, rfl⟩ := map_at hx
      obtain ⟨hj', rfl⟩ := map_at hy
      have ed : cf (es.drop 1) j = cf es (j + 1) := by
        unfold cf
        rw [List.getD_eq_getElem?_getD, List.getD_eq_getElem?_getD, List.getElem?_drop, Nat.add_comm]
      rw [ed]
      walk_at "zz"
      exact c4 _ (fun _ _ h => h)
    obtain ⟨ns, ens, lns, cns⟩ := range_ints (n := n - (i + 1)) fun j => cf es j + cf es (j + 1)
    rw [ens] at hlD3
    walk_at "zz"
    have sn : ∀ {ms : List Int} {v : Int} {f : Nat → Int}, ms.length = i → (∀ j, j < i → cf ms j = f j) → v = f i → ∀ j, j < i + 1 → cf (ms ++ [v]) j = f j := fun hl hc hv j hj => by
      rw [cf_snoc]
      by_cases q : j < i
      · rw [if_pos (by omega)]
        exact hc j q
      · have : j = i := by omega
        subst this
        rw [if_neg (by omega), if_pos hl.symm]
        exact hv
    refine ⟨n - (i + 1), by omega, i + 1, ns, ls ++ [cf es 0 * 2 ^ (n - 1 - i)], us ++ [cf es (n - 1 - i) * 2 ^ (n - 1 - i)], D3, ?_, (sH6.trans s7).trans sD3, rfl, by omega, fun z => ?_, fun z => ?_, hlD3, lns, fun j hj => ?_, sD3 _ _ (s7 _ _ b2), by simp [lls], sn lls cls ?_, sD3 _ _ (s7 _ _ b3), by simp [lus], sn lus cus ?_⟩
    · have : (n : Int) - 1 - i - 1 = (n : Int) - 1 - ((i + 1 : Nat) : Int) := by omega
      rw [this]
      rfl
    · rw [z, s7 _ _ b2] at hD3
      cases hD3
    · rw [z, s7 _ _ b3] at hD3
      cases hD3
    · rw [cns j hj, ces j (by omega), ces (j + 1) (by omega)]
      rfl
    · rw [ces 0 (by omega)]
    · rw [ces (n - 1 - i) (by omega)]
  · have hi : i = n := by omega
    subst hi
    walk_at "zz"
    refine ⟨_, rfl, _, _, rfl, SqL.of hu8, fun rp hrp => ?_⟩
    have sr : Same H' (upd H' rp (.lst (us.map V.int).reverse)) := Same.new hrp
    have er : (upd H' rp (.lst (us.map V.int).reverse)) rp = some (.lst (us.reverse.map V.int)) := by rw [upd_same, List.map_reverse]
    generalize (upd H' rp (.lst (us.map V.int).reverse)) = H9 at *
    walk_at "zz"
    refine k _ _ _ _ ls us.reverse (by walk_at "sm") (by assumption) (by walk_at "up") (by walk_at "up") lls (by simp [lus]) cls (fun j hj => ?_)
    rw [← cus j hj]
    unfold cf
    rw [List.getD_eq_getElem?_getD, List.getD_eq_getElem?_getD, List.getElem?_reverse (by omega)]
    congr 2
    omega
theorem c_halved_tops (L : Lw K mg) : Cal P w K mg base 1 "halved_tops" (sp1 fs_htops) [] := by
  obtain ⟨fd, F⟩ := L.d_halved_tops
  exact ⟨⟨_, fd, ["tops"], [], ok_halved_tops L F, L.g_halved_tops, F.kp, F.bindsN (fun _ _ _ _ _ _ us hl => match us, hl with | [_], _ => rfl), .nil⟩⟩
end
end T

set_option maxHeartbeats 4000000
namespace T
open PySem PySem.Spec PyProof.Rows L2 Z
/-! the readings' steps, as one word: walk_at "z" (one step), "zz" (as far as it goes), "up" (a fact carried here) -/
local macro_rules | `(tactic| walk_at "up") => `(tactic| first
  | assumption
  | (refine' IsR.mono (by assumption) ?zup; case zup => walk_at "up")
  | (refine' IsE.mono (by assumption) ?zup; case zup => walk_at "up")
  | (refine' Same.at (by assumption) ?zup; case zup => walk_at "up")
  | (refine' SqL.of ?zup; case zup => walk_at "up")
  | (refine' L2.Same.seq (by assumption) ?zup; case zup => walk_at "up"))
local macro_rules | `(tactic| walk_at "z") => `(tactic| first
  | ((with_reducible refine' z_var ?zvh ?_); (case zvh => exact rfl))
  | with_reducible refine z_c ?_
  | with_reducible refine z_cons ?_
  | with_reducible refine z_nil ?_
  | with_reducible refine z_op ?_
  | with_reducible refine z_nx ?_
  | with_reducible refine z_seq ?_
  | with_reducible refine z_asg ?_
  | with_reducible refine z_asgG ?_
  | with_reducible refine z_call ?_
  | with_reducible refine z_sq0 ?_
  | with_reducible refine z_sq1 ?_
  | with_reducible refine z_ifS ?_
  | with_reducible refine z_test ?_
  | with_reducible refine z_tb ?_
  | with_reducible refine z_bl ?_
  | with_reducible refine z_blI ?_
  | with_reducible refine z_ret ?_
  | with_reducible refine z_rt ?_
  | with_reducible refine z_T ?_
  | with_reducible refine z_F ?_
  | with_reducible refine z_add ?_
  | with_reducible refine z_sub ?_
  | with_reducible refine z_neg ?_
  | with_reducible refine z_un ?_
  | with_reducible refine z_eqI ?_
  | with_reducible refine z_neI ?_
  | with_reducible refine z_lt ?_
  | with_reducible refine z_le ?_
  | with_reducible refine z_gt ?_
  | with_reducible refine z_ge ?_
  | with_reducible refine z_not ?_
  | with_reducible refine z_and ?_
  | with_reducible refine z_or ?_
  | with_reducible refine z_andV ?_
  | with_reducible refine z_orV ?_
  | with_reducible refine z_notV ?_
  | with_reducible refine z_if ?_
  | with_reducible refine z_cb ?_
  | with_reducible refine z_int1 ?_
  | with_reducible refine z_intb ?_
  | with_reducible refine z_abs ?_
  | with_reducible refine z_gcd ?_
  | with_reducible refine z_isi_ii ?_
  | with_reducible refine z_isi_ib ?_
  | with_reducible refine z_next ?_
  | with_reducible refine z_drop ?_
  | with_reducible refine z_par ?_
  | with_reducible refine z_par2 ?_
  | with_reducible refine z_tupN ?_
  | with_reducible refine z_lstN ?_
  | ((with_reducible refine' z_nt ?zl1 ?_); (case zl1 => exact Nat.le_of_ble_eq_true rfl); intro p H' hp hs he)
  | ((with_reducible refine' z_gtup ?zl1 ?zl2 ?_); (case zl1 => walk_at "up"); (case zl2 => exact rfl))
  | with_reducible refine z_bk ?_
  | with_reducible refine z_ct ?_
  | with_reducible refine z_break ?_
  | with_reducible refine z_cont ?_
  | with_reducible refine z_retN ?_
  | with_reducible refine z_nn ?_
  | with_reducible refine z_mk ?_
  | with_reducible refine z_gn ?_
  | with_reducible refine z_gcons ?_
  | with_reducible refine z_gnil ?_
  | with_reducible refine z_mt ?_
  | with_reducible refine z_mko ?_
  | with_reducible refine z_for2 ?_
  | with_reducible refine z_ownI ?_
  | ((with_reducible refine' z_lenL ?zl1 ?_); (case zl1 => walk_at "up"))
  | ((with_reducible refine' z_ixT ?zl1 ?zl2 ?_); (case zl1 => walk_at "up"); (case zl2 => exact rfl))
  | ((with_reducible refine' z_mulL ?zl1 ?zl2 ?_); (case zl1 => omega); (case zl2 => omega))
  | ((with_reducible refine' z_mulR ?zl1 ?zl2 ?_); (case zl1 => omega); (case zl2 => omega))
  | ((with_reducible refine' z_divS ?zl1 ?zl2 ?_); (case zl1 => omega); (case zl2 => omega))
  | ((with_reducible refine' z_mulW ?zl1 ?zl2 ?zl3 ?zl4 ?_); (case zl1 => omega); (case zl2 => omega); (case zl3 => omega); (case zl4 => omega))
  | ((with_reducible refine' z_divW ?zl1 ?zl2 ?_); (case zl1 => omega); (case zl2 => omega)))
local macro_rules | `(tactic| walk_at "zz") => `(tactic| repeat (walk_at "z"))
local macro_rules | `(tactic| walk_at "z") => `(tactic| with_reducible refine z_lstN ?_)
local macro_rules | `(tactic| walk_at "z") => `(tactic| with_reducible refine z_p6 ?_)
local macro_rules | `(tactic| walk_at "z") => `(tactic| with_reducible refine z_p12 ?_)
local macro_rules | `(tactic| walk_at "z") => `(tactic| with_reducible refine z_p13 ?_)
local macro_rules | `(tactic| walk_at "z") => `(tactic| with_reducible refine z_calln ?_)
local macro_rules | `(tactic| walk_at "z") => `(tactic| with_reducible refine z_xfS ?_)
local macro_rules | `(tactic| walk_at "z") => `(tactic| with_reducible refine z_lcS ?_)
local macro_rules | `(tactic| walk_at "z") => `(tactic| with_reducible refine z_lcRS ?_)
local macro_rules | `(tactic| walk_at "z") => `(tactic| with_reducible refine z_lcZS ?_)
local macro_rules | `(tactic| walk_at "z") => `(tactic| with_reducible refine z_foS ?_)
local macro_rules | `(tactic| walk_at "z") => `(tactic| with_reducible refine z_for1 ?_)
local macro_rules | `(tactic| walk_at "z") => `(tactic| with_reducible refine z_tsl ?_)
local macro_rules | `(tactic| walk_at "z") => `(tactic| with_reducible refine z_np ?_)
local macro_rules | `(tactic| walk_at "z") => `(tactic| with_reducible refine z_pt ?_)
local macro_rules | `(tactic| walk_at "z") => `(tactic| with_reducible refine z_pti ?_)
local macro_rules | `(tactic| walk_at "z") => `(tactic| with_reducible refine z_catI ?_)
local macro_rules | `(tactic| walk_at "z") => `(tactic| with_reducible refine z_isNI ?_)
local macro_rules | `(tactic| walk_at "z") => `(tactic| with_reducible refine z_isNN ?_)
local macro_rules | `(tactic| walk_at "z") => `(tactic| with_reducible refine z_notNI ?_)
local macro_rules | `(tactic| walk_at "z") => `(tactic| with_reducible refine z_notNN ?_)
local macro_rules | `(tactic| walk_at "z") => `(tactic| with_reducible refine z_gsub ?_)
local macro_rules | `(tactic| walk_at "z") => `(tactic| with_reducible refine z_isNb ?_)
local macro_rules | `(tactic| walk_at "z") => `(tactic| with_reducible refine z_notNb ?_)
local macro_rules | `(tactic| walk_at "z") => `(tactic| ((with_reducible refine' z_nlR ?zl1 ?_); (case zl1 => exact Nat.le_of_ble_eq_true rfl); intro p H' hp hs he))
local macro_rules | `(tactic| walk_at "z") => `(tactic| ((with_reducible refine' z_repR ?zl1 ?zl2 ?_); (case zl1 => omega); (case zl2 => omega)))
local macro_rules | `(tactic| walk_at "z") => `(tactic| ((with_reducible refine' z_repL ?zl1 ?zl2 ?_); (case zl1 => omega); (case zl2 => omega)))
local macro_rules | `(tactic| walk_at "z") => `(tactic| ((with_reducible refine' z_lenLst ?zl1 ?_); (case zl1 => walk_at "up")))
local macro_rules | `(tactic| walk_at "z") => `(tactic| ((with_reducible refine' z_cat ?zl1 ?zl2 ?zl3 ?_); (case zl1 => walk_at "up"); (case zl2 => walk_at "up"); (case zl3 => (simp only [List.length_map, List.length_cons, List.length_nil, List.length_append, List.length_replicate]; omega)); intro p H' hp hs he))
local macro_rules | `(tactic| walk_at "z") => `(tactic| with_reducible refine z_sfl ?_)
local macro_rules | `(tactic| walk_at "z") => `(tactic| with_reducible refine z_lcES ?_)
local macro_rules | `(tactic| walk_at "z") => `(tactic| with_reducible refine z_lcMS ?_)
local macro_rules | `(tactic| walk_at "z") => `(tactic| with_reducible refine z_foES ?_)
local macro_rules | `(tactic| walk_at "z") => `(tactic| with_reducible refine z_fo3S ?_)
local macro_rules | `(tactic| walk_at "z") => `(tactic| with_reducible refine z_sta ?_)
local macro_rules | `(tactic| walk_at "z") => `(tactic| with_reducible refine z_sta1 ?_)
local macro_rules | `(tactic| walk_at "z") => `(tactic| with_reducible refine z_lcTS ?_)
local macro_rules | `(tactic| walk_at "z") => `(tactic| with_reducible refine z_foTS ?_)
local macro_rules | `(tactic| walk_at "z") => `(tactic| ((with_reducible refine' z_fldt ?zc1 ?zc2 ?zl1 ?zl2 ?_); (case zc1 => exact Lw.cl_Ratio (by assumption)); (case zc2 => exact Lw.na_Ratio_top (by assumption)); (case zl1 => exact rfl); (case zl2 => walk_at "up")))
local macro_rules | `(tactic| walk_at "z") => `(tactic| ((with_reducible refine' z_fldb ?zc1 ?zc2 ?zl1 ?zl2 ?_); (case zc1 => exact Lw.cl_Ratio (by assumption)); (case zc2 => exact Lw.na_Ratio_bottom (by assumption)); (case zl1 => exact rfl); (case zl2 => walk_at "up")))
local macro_rules | `(tactic| walk_at "z") => `(tactic| ((with_reducible refine' z_fldG ?zc1 ?zc2 ?zl0 ?zl1 ?zl2 ?_); (case zc1 => exact Lw.cl_Poly (by assumption)); (case zc2 => exact Lw.na_Poly_numbers (by assumption)); (case zl0 => exact rfl); (case zl1 => walk_at "up"); (case zl2 => exact lkA)))
local macro_rules | `(tactic| walk_at "z") => `(tactic| ((with_reducible refine' z_fldG ?zc1 ?zc2 ?zl0 ?zl1 ?zl2 ?_); (case zc1 => exact Lw.cl_Poly (by assumption)); (case zc2 => exact Lw.na_Poly_over (by assumption)); (case zl0 => exact rfl); (case zl1 => walk_at "up"); (case zl2 => exact lkO)))
local macro_rules | `(tactic| walk_at "z") => `(tactic| ((with_reducible refine' z_fldG ?zc1 ?zc2 ?zl0 ?zl1 ?zl2 ?_); (case zc1 => exact Lw.cl_Poly (by assumption)); (case zc2 => exact Lw.na_Poly_degree (by assumption)); (case zl0 => exact rfl); (case zl1 => walk_at "up"); (case zl2 => exact lkD)))
theorem same30i {H H1 H2 : Hp} (h : Same H1 H2) (e : Same H H1) : Same H H2 := e.trans h
local macro_rules | `(tactic| walk_at "sm") => `(tactic| first
  | assumption
  | exact fun _ _ h => h
  | (refine' same30i (by assumption) ?zsm; case zsm => walk_at "sm"))

open S31 (cf pb)
open S30
theorem RB.pick {K : Frag} {H : Hp} {l : Addr} {n : Nat} {v : Sq} {B C : Nat} (h : RB K H l n v B C) : ∃ (xs : List V) (ad : Nat → Addr) (ts bs : Nat → Int), H l = some (.lst xs) ∧ xs.length = n ∧
    ∀ k, k < n → xs[k]? = some (.ref (ad k)) ∧ IsR K H (ad k) (ts k) (bs k) ∧ 0 < bs k ∧ Bits B (ts k) ∧ Bits C (bs k) ∧ (ts k : Rat) = v k * (bs k : Rat) := by
  obtain ⟨xs, h1, h2, h3⟩ := h
  have q : ∀ k, ∃ z : Addr × Int × Int, k < n → xs[k]? = some (.ref z.1) ∧ IsR K H z.1 z.2.1 z.2.2 ∧ 0 < z.2.2 ∧ Bits B z.2.1 ∧ Bits C z.2.2 ∧ (z.2.1 : Rat) = v k * (z.2.2 : Rat) := fun k => by
    by_cases c : k < n
    · have e : xs[k]? = some (xs[k]'(by omega)) := List.getElem?_eq_getElem _
      obtain ⟨a, t, b, ex, z⟩ := h3 k _ e
      exact ⟨(a, t, b), fun _ => ⟨by rw [e, ex], z⟩⟩
    · exact ⟨(0, 0, 0), fun z => absurd z c⟩
  obtain ⟨f, hf⟩ := Classical.skolem.mp q
  exact ⟨xs, fun k => (f k).1, fun k => (f k).2.1, fun k => (f k).2.2, h1, h2, hf⟩
theorem PB.pick {H : Hp} {l : Addr} {n : Nat} {v : Sq} {B C : Nat} (h : PB H l n v B C) : ∃ (xs : List V) (ad : Nat → Addr) (ts bs : Nat → Int), H l = some (.lst xs) ∧ xs.length = n ∧
    ∀ k, k < n → xs[k]? = some (.ref (ad k)) ∧ H (ad k) = some (.tup [.int (ts k), .int (bs k)]) ∧ 0 < bs k ∧ Bits B (ts k) ∧ Bits C (bs k) ∧ (ts k : Rat) = v k * (bs k : Rat) := by
  obtain ⟨xs, h1, h2, h3⟩ := h
  have q : ∀ k, ∃ z : Addr × Int × Int, k < n → xs[k]? = some (.ref z.1) ∧ H z.1 = some (.tup [.int z.2.1, .int z.2.2]) ∧ 0 < z.2.2 ∧ Bits B z.2.1 ∧ Bits C z.2.2 ∧ (z.2.1 : Rat) = v k * (z.2.2 : Rat) := fun k => by
    by_cases c : k < n
    · have e : xs[k]? = some (xs[k]'(by omega)) := List.getElem?_eq_getElem _
      obtain ⟨a, t, b, ex, z⟩ := h3 k _ e
      exact ⟨(a, t, b), fun _ => ⟨by rw [e, ex], z⟩⟩
    · exact ⟨(0, 0, 0), fun z => absurd z c⟩
  obtain ⟨f, hf⟩ := Classical.skolem.mp q
  exact ⟨xs, fun k => (f k).1, fun k => (f k).2.1, fun k => (f k).2.2, h1, h2, hf⟩
theorem pow_split {n i : Nat} (hi : i < n) : (2 : Rat) ^ (n - 1) = 2 ^ (n - 1 - i) * 2 ^ i := by
  rw [← S31.pow_add']
  congr 1
  omega
theorem pow2_ne (i : Nat) : (2 : Rat) ^ i ≠ 0 := by
  have := S31.pow_pos' (x := 2) (by decide) i
  grind
theorem half_lo {cs : Nat → Int} {v : Sq} {c : Int} {n i : Nat} (hc : ∀ k, k < n → (cs k : Rat) = v k * (c : Rat)) (hi : i < n) : ((W cs i 0 * 2 ^ (n - 1 - i) : Int) : Rat) = U i v * ((c * 2 ^ (n - 1) : Int) : Rat) := by
  rw [Rat.intCast_mul, Rat.intCast_mul, cast_pow, cast_pow, W_0, U_T, show ((2 : Int) : Rat) = 2 from rfl, pow_split hi]
  have e : T i (fun k => (cs k : Rat)) = (c : Rat) * T i v := by
    rw [← T_mul]
    exact T_congr fun k hk => by rw [hc k (by omega), Rat.mul_comm]
  rw [e]
  have := pow2_ne i
  grind
theorem half_hi {cs : Nat → Int} {v : Sq} {c : Int} {n i : Nat} (hc : ∀ k, k < n → (cs k : Rat) = v k * (c : Rat)) (hi : i < n) : ((W cs i (n - 1 - i) * 2 ^ (n - 1 - i) : Int) : Rat) = U i (rv (n - 1) v) * ((c * 2 ^ (n - 1) : Int) : Rat) := by
  rw [Rat.intCast_mul, Rat.intCast_mul, cast_pow, cast_pow, W_T, U_rv (show i ≤ n - 1 by omega), show ((2 : Int) : Rat) = 2 from rfl, pow_split hi]
  have e : T i (fun k => (cs (n - 1 - i + k) : Rat)) = (c : Rat) * T i (fun k => v (n - 1 - i + k)) := by
    rw [← T_mul]
    exact T_congr fun k hk => by rw [hc _ (by omega), Rat.mul_comm]
  rw [e]
  have := pow2_ne i
  grind
/-- the upper half by places -/
def upH (n : Nat) (v : Sq) : Sq := fun j => U (n - 1 - j) (rv (n - 1) v)
def fs_halved (K : Frag) : F1 := fun a H Q E => ∃ (p : Addr) (n B C : Nat) (v : Sq), a = .ref p ∧ RB K H p n v B C ∧ B ≤ 10000 ∧ C ≤ 5000 ∧ n * C ≤ 5900 ∧
  ((1 ≤ n ∧ n ≤ 60) → ∀ t l u H', Same H H' → H' t = some (.tup [.ref l, .ref u]) → RL K H' l n (fun k => U k v) 20000 → RL K H' u n (upH n v) 20000 → H l = none → H u = none → l ≠ u → Q (.ref t) H') ∧
  (¬ (1 ≤ n ∧ n ≤ 60) → ∀ d H', Same H H' → H' d = some (.xd [("size", .int n)]) → E (.ref (He.ga K "BadSize")) (some d) H')
local macro_rules | `(tactic| walk_at "up") => `(tactic| first
  | assumption
  | (with_reducible refine' IsR.mono (by assumption) ?zup; case zup => walk_at "up")
  | (with_reducible refine' IsV.mono (by assumption) ?zup; case zup => walk_at "up")
  | (with_reducible refine' IsQ.mono (by assumption) ?zup; case zup => walk_at "up")
  | (with_reducible refine' PQ.mono (by assumption) ?zup; case zup => walk_at "up")
  | (with_reducible refine' RL.mono (by assumption) ?zup; case zup => walk_at "up")
  | (with_reducible refine' PL.mono (by assumption) ?zup; case zup => walk_at "up")
  | (with_reducible refine' RB.mono (by assumption) ?zup; case zup => walk_at "up")
  | (with_reducible refine' PB.mono (by assumption) ?zup; case zup => walk_at "up")
  | (with_reducible refine' Same.at (by assumption) ?zup; case zup => walk_at "up")
  | fail)
section
variable {P : Program} {w : World} {K : Frag} {mg : Str → Option Value} {base : Heap}
theorem ok_halved (L : Lw K mg) {fd : FuncData} (F : FunD K "halved" "halved" (defArgs s_halved) (defBody s_halved) (defScope s_halved) (df_halved.dvs K) (df_halved.kws K) (He.fAd K ("halved", none)) fd) : FnOk P w K mg base (L2N.CX P w) 4 (He.fAd K ("halved", none)) fd (["numbers"] : List Str) (sp1 (fs_halved K)) := by
  refine FunD.ok F sc_halved len1 (fun cdv A outer s H vs Q E hr h => ?_)
  obtain ⟨a, rfl, h⟩ := h
  refine ⟨_, (pss_cons (ps_expr (pe_c (c_check_size (K := K) L) hr (by decide) (L2N.takes_of rfl rfl rfl rfl) (pa_cons (pv 0) (pa_cons pe_int (pa_cons pe_int pa_nil)))))
    (pss_cons (ps_set (i := 1) sc_halved.nd rfl (by first | exact Or.inl rfl | exact Or.inr rfl) pe_int)
    (pss_cons (ps_for (passes_of rfl) rfl (pi_listK (K := K) rfl (pv 0)) (pg_name (i := 2) sc_halved.nd rfl (by first | exact Or.inl rfl | exact Or.inr rfl)) (pss_one (ps_set (i := 1) sc_halved.nd rfl (by first | exact Or.inl rfl | exact Or.inr rfl) (pe_callBfun cr_lcm rfl L.v_lcm (pa_cons (pv 1) (pa_cons (pe_fld (pv 2) rfl) pa_nil))))))
    (pss_cons (ps_asg (pe_c (c_halved_tops (K := K) L) hr (by decide) (L2N.takes_of rfl rfl rfl rfl) (pa_cons (pe_lc (own := [("number", 2)]) (g := (gName 2)) (tt := tYes) rfl sc_halved.nd (pi_listK (K := K) rfl (pv 0)) (blkOk_by (N := ["numbers", "bottom", "number", "lower", "upper", "scale", "top"]) (sc := defScope s_halved) (by decide +kernel)) (fun _ _ _ _ _ => pg_name (i := 2) sc_halved.nd rfl (Or.inl rfl)) (fun _ _ _ _ _ => pts_nil) (fun _ _ _ _ _ => (pe_op o_rep (pe_fldK (K := K) rfl (pv 2) rfl) (pe_op o_div (pv 1) (pe_fldK (K := K) rfl (pv 2) rfl))))) pa_nil)) (pg_tup (by rfl) (pgs_cons (pg_name (i := 3) sc_halved.nd rfl (by first | exact Or.inl rfl | exact Or.inr rfl)) (pgs_cons (pg_name (i := 4) sc_halved.nd rfl (by first | exact Or.inl rfl | exact Or.inr rfl)) pgs_nil))))
    (pss_cons (ps_set (i := 5) sc_halved.nd rfl (by first | exact Or.inl rfl | exact Or.inr rfl) (pe_op op_shlW (pv 1) (pe_op o_sub (pe_callB (callK rLen1 (K := K) rfl o_len) (by rfl) L.f_len (by decide +kernel) (pa_cons (pv 0) pa_nil)) pe_int)))
    (pss_one (ps_ret (pe_tup (pa_cons (pe_lc (own := [("top", 6)]) (g := (gName 6)) (tt := tYes) rfl sc_halved.nd (pi_listK (K := K) rfl (pv 3)) (blkOk_by (N := ["numbers", "bottom", "number", "lower", "upper", "scale", "top"]) (sc := defScope s_halved) (by decide +kernel)) (fun _ _ _ _ _ => pg_name (i := 6) sc_halved.nd rfl (Or.inl rfl)) (fun _ _ _ _ _ => pts_nil) (fun _ _ _ _ _ => (pe_mk (c_RatioD_initD (K := K) L) hr (by decide) takesF (pa_cons (pv 6) (pa_cons (pv 5) pa_nil))))) (pa_cons (pe_lc (own := [("top", 6)]) (g := (gName 6)) (tt := tYes) rfl sc_halved.nd (pi_listK (K := K) rfl (pv 4)) (blkOk_by (N := ["numbers", "bottom", "number", "lower", "upper", "scale", "top"]) (sc := defScope s_halved) (by decide +kernel)) (fun _ _ _ _ _ => pg_name (i := 6) sc_halved.nd rfl (Or.inl rfl)) (fun _ _ _ _ _ => pts_nil) (fun _ _ _ _ _ => (pe_mk (c_RatioD_initD (K := K) L) hr (by decide) takesF (pa_cons (pv 6) (pa_cons (pv 5) pa_nil))))) pa_nil)))))))))), ?_⟩
  obtain ⟨p, n, B, C, v, rfl, hp, hB, hC, hnC, k, kx⟩ := h
  obtain ⟨xs, ad, ts, bs, hxs, lxs, its⟩ := hp.pick
  walk_at "zz"
  refine ⟨_, _, _, rfl, p, xs, 1, 60, rfl, rfl, rfl, hxs, fun hn => ?_, fun hn d H1 s1 hd => kx (by omega) d H1 s1 (by rw [lxs] at hd; exact hd)⟩
  have hn1 : 1 ≤ n ∧ n ≤ 60 := by omega
  have k := k hn1
  obtain ⟨n1, n60⟩ := hn1
  walk_at "zz"
  refine z_foV hxs (fun i σ' H' => ∃ (c : Int) (x2 : Option V), σ' = [some (.ref p), some (.int c), x2, none, none, none, none] ∧ H' = H ∧ 0 < c ∧ Bits (C * i + 1) c ∧ ∀ j, j < i → bs j ∣ c) ⟨1, none, rfl, rfl, by decide, Bits.small (n := 1) (by decide) (by decide), fun j hj => absurd hj (Nat.not_lt_zero _)⟩ (fun i σ' H' z => by obtain ⟨c, x, _, rfl, _⟩ := z; exact hxs) ?_ ?_
  · rintro i x σ' H' hx ⟨c, x2, rfl, rfl, c0, cb, cd⟩
    have hi : i < n := by
      by_cases q : i < n
      · exact q
      · rw [List.getElem?_eq_none (by omega)] at hx
        cases hx
    obtain ⟨ex, hr, b0, tb, bb, e⟩ := its i hi
    rw [ex] at hx
    cases hx
    have hCi : C * i + 1 ≤ 6000 := by
      have : C * i ≤ C * n := Nat.mul_le_mul_left C (by omega)
      have : C * n = n * C := Nat.mul_comm ..
      omega
    obtain ⟨l0, l1, l2, l3⟩ := lcm_facts c0 b0
    walk_at "zz"
    refine z_lcm cb bb hCi (by omega) ?_
    walk_at "zz"
    refine ⟨_, _, rfl, rfl, l0, Bits.up (l3 _ _ cb bb) (by rw [Nat.mul_succ]; omega), fun j hj => ?_⟩
    by_cases e : j = i
    · rw [e]
      exact l2
    · exact Int.dvd_trans (cd j (by omega)) l1
  rintro σ' H' ⟨c, x2, rfl, rfl, c0, cb, cd⟩
  rw [lxs, Nat.mul_comm] at cb
  rw [lxs] at cd
  walk_at "zz"
  refine z_lcVF (fun j => V.int (ts j * (c / bs j))) hxs (by omega) (fun j x H4 N hx s4 c4 => ⟨rfl, ?_⟩) (fun D HD hD sD hlD => ?_)
  · have hj : j < n := by
      by_cases q : j < n
      · exact q
      · rw [List.getElem?_eq_none (by omega)] at hx
        cases hx
    obtain ⟨ex, hr, b0, tb, bb, e⟩ := its j hj
    rw [ex] at hx
    cases hx
    have hr4 := hr.mono s4
    walk_at "zz"
    refine z_div b0 (bb.up (Nat.le_succ C)) (Nat.succ_pos C) (by omega) ?_
    refine z_repU tb cb.div (by omega) ?_
    exact c4 _ (fun _ _ h => h)
  rw [lxs] at hlD
  obtain ⟨cs, ecs, lcs, ccs⟩ := range_ints (n := n) fun j => ts j * (c / bs j)
  rw [ecs] at hlD
  have bcs : ∀ k, Bits 16000 (cf cs k) := fun k => by
    by_cases h : k < n
    · rw [ccs k h]
      exact Bits.up ((its k h).2.2.2.1.mul cb.div) (by omega)
    · rw [S31.cf_out (by omega)]
      exact Bits.zero
  have vcs : ∀ k, k < n → (cf cs k : Rat) = v k * (c : Rat) := fun k h => by
    obtain ⟨ex, hr, b0, tb, bb, e⟩ := its k h
    have e1 : c / bs k * bs k = c := Int.ediv_mul_cancel (cd k h)
    have e2 : ((c / bs k : Int) : Rat) * (bs k : Rat) = (c : Rat) := by rw [← Rat.intCast_mul, e1]
    rw [ccs k h, Rat.intCast_mul, e, ← e2]
    grind
  walk_at "zz"
  refine ⟨_, rfl, D, cs, n, 16000, rfl, hlD, lcs, n1, n60, by decide, bcs, fun t l u H1 ls us s1 et el eu lls lus cls cus => ?_⟩
  walk_at "zz"
  have ln : ((xs.length : Int) - 1) = ((n - 1 : Nat) : Int) := by omega
  refine z_shl (n := n - 1) ln cb (by omega) ?_
  have d0 : 0 < c * 2 ^ (n - 1) := Int.mul_pos c0 (Int.pow_pos (by decide))
  have db : Bits 8999 (c * 2 ^ (n - 1)) := Bits.up cb.shl (by omega)
  have wl : ∀ k, k < n → Bits 20000 (cf ls k) := fun k hk => by
    rw [cls k hk]
    exact Bits.up (W_bits bcs k 0).shl (by omega)
  have wu : ∀ k, k < n → Bits 20000 (cf us k) := fun k hk => by
    have := cus (n - 1 - k) (by omega)
    rw [show n - 1 - (n - 1 - k) = k by omega] at this
    rw [this]
    exact Bits.up (W_bits bcs _ _).shl (by omega)
  walk_at "zz"
  refine z_lcVP (itR K (fun k => U k v) 20000) itR_mono el (by rw [List.length_map]; omega) (fun j x H4 N hx s4 c4 => ⟨rfl, ?_⟩) (fun D2 HD2 hD2 sD2 hlD2 => ?_)
  · obtain ⟨hj, rfl⟩ := map_at hx
    have hj : j < n := by omega
    walk_at "zz"
    refine u_mkV (v := U j v) (B := 20000) d0 db (wl j hj) (db.up (by decide)) ?_ fun q H5 s5 hq => c4 _ _ s5 ⟨q, rfl, hq⟩
    rw [cls j hj]
    exact half_lo vcs hj
  walk_at "zz"
  refine z_lcVP (itR K (upH n v) 20000) itR_mono (sD2 _ _ eu) (by rw [List.length_map]; omega) (fun j x H4 N hx s4 c4 => ⟨rfl, ?_⟩) (fun D3 HD3 hD3 sD3 hlD3 => ?_)
  · obtain ⟨hj, rfl⟩ := map_at hx
    have hj : j < n := by omega
    walk_at "zz"
    refine u_mkV (v := upH n v j) (B := 20000) d0 db (wu j hj) (db.up (by decide)) ?_ fun q H5 s5 hq => c4 _ _ s5 ⟨q, rfl, hq⟩
    have := cus (n - 1 - j) (by omega)
    rw [show n - 1 - (n - 1 - j) = j by omega] at this
    rw [this]
    have h2 := half_hi (n := n) (i := n - 1 - j) vcs (by omega)
    rw [show n - 1 - (n - 1 - j) = j by omega] at h2
    exact h2
  rw [List.length_map, lls] at hlD2
  rw [List.length_map, lus] at hlD3
  walk_at "zz"
  exact k _ _ _ _ (by walk_at "sm") (by assumption) (RL.mono (by assumption) (RL.mono sD3 hlD2)) (RL.mono (by assumption) hlD3) (Same.none (sD.trans s1) hD2) (Same.none ((sD.trans s1).trans sD2) hD3) (by
    obtain ⟨_, z, _⟩ := hlD2
    exact ne_of_none z hD3)
theorem c_halved (L : Lw K mg) : Cal P w K mg base 4 "halved" (sp1 (fs_halved K)) [] := by
  obtain ⟨fd, F⟩ := L.d_halved
  exact ⟨⟨_, fd, ["numbers"], [], ok_halved L F, L.g_halved, F.kp, F.bindsN (fun _ _ _ _ _ _ us hl => match us, hl with | [_], _ => rfl), .nil⟩⟩
end
end T

set_option maxHeartbeats 4000000
namespace T
open PySem PySem.Spec PyProof.Rows L2 Z
/-! the readings' steps, as one word: walk_at "z" (one step), "zz" (as far as it goes), "up" (a fact carried here) -/
local macro_rules | `(tactic| walk_at "up") => `(tactic| first
  | assumption
  | (refine' IsR.mono (by assumption) ?zup; case zup => walk_at "up")
  | (refine' IsE.mono (by assumption) ?zup; case zup => walk_at "up")
  | (refine' Same.at (by assumption) ?zup; case zup => walk_at "up")
  | (refine' SqL.of ?zup; case zup => walk_at "up")
  | (refine' L2.Same.seq (by assumption) ?zup; case zup => walk_at "up"))
local macro_rules | `(tactic| walk_at "z") => `(tactic| first
  | ((with_reducible refine' z_var ?zvh ?_); (case zvh => exact rfl))
  | with_reducible refine z_c ?_
  | with_reducible refine z_cons ?_
  | with_reducible refine z_nil ?_
  | with_reducible refine z_op ?_
  | with_reducible refine z_nx ?_
  | with_reducible refine z_seq ?_
  | with_reducible refine z_asg ?_
  | with_reducible refine z_asgG ?_
  | with_reducible refine z_call ?_
  | with_reducible refine z_sq0 ?_
  | with_reducible refine z_sq1 ?_
  | with_reducible refine z_ifS ?_
  | with_reducible refine z_test ?_
  | with_reducible refine z_tb ?_
  | with_reducible refine z_bl ?_
  | with_reducible refine z_blI ?_
  | with_reducible refine z_ret ?_
  | with_reducible refine z_rt ?_
  | with_reducible refine z_T ?_
  | with_reducible refine z_F ?_
  | with_reducible refine z_add ?_
  | with_reducible refine z_sub ?_
  | with_reducible refine z_neg ?_
  | with_reducible refine z_un ?_
  | with_reducible refine z_eqI ?_
  | with_reducible refine z_neI ?_
  | with_reducible refine z_lt ?_
  | with_reducible refine z_le ?_
  | with_reducible refine z_gt ?_
  | with_reducible refine z_ge ?_
  | with_reducible refine z_not ?_
  | with_reducible refine z_and ?_
  | with_reducible refine z_or ?_
  | with_reducible refine z_andV ?_
  | with_reducible refine z_orV ?_
  | with_reducible refine z_notV ?_
  | with_reducible refine z_if ?_
  | with_reducible refine z_cb ?_
  | with_reducible refine z_int1 ?_
  | with_reducible refine z_intb ?_
  | with_reducible refine z_abs ?_
  | with_reducible refine z_gcd ?_
  | with_reducible refine z_isi_ii ?_
  | with_reducible refine z_isi_ib ?_
  | with_reducible refine z_next ?_
  | with_reducible refine z_drop ?_
  | with_reducible refine z_par ?_
  | with_reducible refine z_par2 ?_
  | with_reducible refine z_tupN ?_
  | with_reducible refine z_lstN ?_
  | ((with_reducible refine' z_nt ?zl1 ?_); (case zl1 => exact Nat.le_of_ble_eq_true rfl); intro p H' hp hs he)
  | ((with_reducible refine' z_gtup ?zl1 ?zl2 ?_); (case zl1 => walk_at "up"); (case zl2 => exact rfl))
  | with_reducible refine z_bk ?_
  | with_reducible refine z_ct ?_
  | with_reducible refine z_break ?_
  | with_reducible refine z_cont ?_
  | with_reducible refine z_retN ?_
  | with_reducible refine z_nn ?_
  | with_reducible refine z_mk ?_
  | with_reducible refine z_gn ?_
  | with_reducible refine z_gcons ?_
  | with_reducible refine z_gnil ?_
  | with_reducible refine z_mt ?_
  | with_reducible refine z_mko ?_
  | with_reducible refine z_for2 ?_
  | with_reducible refine z_ownI ?_
  | ((with_reducible refine' z_lenL ?zl1 ?_); (case zl1 => walk_at "up"))
  | ((with_reducible refine' z_ixT ?zl1 ?zl2 ?_); (case zl1 => walk_at "up"); (case zl2 => exact rfl))
  | ((with_reducible refine' z_mulL ?zl1 ?zl2 ?_); (case zl1 => omega); (case zl2 => omega))
  | ((with_reducible refine' z_mulR ?zl1 ?zl2 ?_); (case zl1 => omega); (case zl2 => omega))
  | ((with_reducible refine' z_divS ?zl1 ?zl2 ?_); (case zl1 => omega); (case zl2 => omega))
  | ((with_reducible refine' z_mulW ?zl1 ?zl2 ?zl3 ?zl4 ?_); (case zl1 => omega); (case zl2 => omega); (case zl3 => omega); (case zl4 => omega))
  | ((with_reducible refine' z_divW ?zl1 ?zl2 ?_); (case zl1 => omega); (case zl2 => omega)))
local macro_rules | `(tactic| walk_at "zz") => `(tactic| repeat (walk_at "z"))
local macro_rules | `(tactic| walk_at "z") => `(tactic| with_reducible refine z_lstN ?_)
local macro_rules | `(tactic| walk_at "z") => `(tactic| with_reducible refine z_p6 ?_)
local macro_rules | `(tactic| walk_at "z") => `(tactic| with_reducible refine z_p12 ?_)
local macro_rules | `(tactic| walk_at "z") => `(tactic| with_reducible refine z_p13 ?_)
local macro_rules | `(tactic| walk_at "z") => `(tactic| with_reducible refine z_calln ?_)
local macro_rules | `(tactic| walk_at "z") => `(tactic| with_reducible refine z_xfS ?_)
local macro_rules | `(tactic| walk_at "z") => `(tactic| with_reducible refine z_lcS ?_)
local macro_rules | `(tactic| walk_at "z") => `(tactic| with_reducible refine z_lcRS ?_)
local macro_rules | `(tactic| walk_at "z") => `(tactic| with_reducible refine z_lcZS ?_)
local macro_rules | `(tactic| walk_at "z") => `(tactic| with_reducible refine z_foS ?_)
local macro_rules | `(tactic| walk_at "z") => `(tactic| with_reducible refine z_for1 ?_)
local macro_rules | `(tactic| walk_at "z") => `(tactic| with_reducible refine z_tsl ?_)
local macro_rules | `(tactic| walk_at "z") => `(tactic| with_reducible refine z_np ?_)
local macro_rules | `(tactic| walk_at "z") => `(tactic| with_reducible refine z_pt ?_)
local macro_rules | `(tactic| walk_at "z") => `(tactic| with_reducible refine z_pti ?_)
local macro_rules | `(tactic| walk_at "z") => `(tactic| with_reducible refine z_catI ?_)
local macro_rules | `(tactic| walk_at "z") => `(tactic| with_reducible refine z_isNI ?_)
local macro_rules | `(tactic| walk_at "z") => `(tactic| with_reducible refine z_isNN ?_)
local macro_rules | `(tactic| walk_at "z") => `(tactic| with_reducible refine z_notNI ?_)
local macro_rules | `(tactic| walk_at "z") => `(tactic| with_reducible refine z_notNN ?_)
local macro_rules | `(tactic| walk_at "z") => `(tactic| with_reducible refine z_gsub ?_)
local macro_rules | `(tactic| walk_at "z") => `(tactic| with_reducible refine z_isNb ?_)
local macro_rules | `(tactic| walk_at "z") => `(tactic| with_reducible refine z_notNb ?_)
local macro_rules | `(tactic| walk_at "z") => `(tactic| ((with_reducible refine' z_nlR ?zl1 ?_); (case zl1 => exact Nat.le_of_ble_eq_true rfl); intro p H' hp hs he))
local macro_rules | `(tactic| walk_at "z") => `(tactic| ((with_reducible refine' z_repR ?zl1 ?zl2 ?_); (case zl1 => omega); (case zl2 => omega)))
local macro_rules | `(tactic| walk_at "z") => `(tactic| ((with_reducible refine' z_repL ?zl1 ?zl2 ?_); (case zl1 => omega); (case zl2 => omega)))
local macro_rules | `(tactic| walk_at "z") => `(tactic| ((with_reducible refine' z_lenLst ?zl1 ?_); (case zl1 => walk_at "up")))
local macro_rules | `(tactic| walk_at "z") => `(tactic| ((with_reducible refine' z_cat ?zl1 ?zl2 ?zl3 ?_); (case zl1 => walk_at "up"); (case zl2 => walk_at "up"); (case zl3 => (simp only [List.length_map, List.length_cons, List.length_nil, List.length_append, List.length_replicate]; omega)); intro p H' hp hs he))
local macro_rules | `(tactic| walk_at "z") => `(tactic| with_reducible refine z_sfl ?_)
local macro_rules | `(tactic| walk_at "z") => `(tactic| with_reducible refine z_lcES ?_)
local macro_rules | `(tactic| walk_at "z") => `(tactic| with_reducible refine z_lcMS ?_)
local macro_rules | `(tactic| walk_at "z") => `(tactic| with_reducible refine z_foES ?_)
local macro_rules | `(tactic| walk_at "z") => `(tactic| with_reducible refine z_fo3S ?_)
local macro_rules | `(tactic| walk_at "z") => `(tactic| with_reducible refine z_sta ?_)
local macro_rules | `(tactic| walk_at "z") => `(tactic| with_reducible refine z_sta1 ?_)
local macro_rules | `(tactic| walk_at "z") => `(tactic| with_reducible refine z_lcTS ?_)
local macro_rules | `(tactic| walk_at "z") => `(tactic| with_reducible refine z_foTS ?_)
local macro_rules | `(tactic| walk_at "z") => `(tactic| ((with_reducible refine' z_fldt ?zc1 ?zc2 ?zl1 ?zl2 ?_); (case zc1 => exact Lw.cl_Ratio (by assumption)); (case zc2 => exact Lw.na_Ratio_top (by assumption)); (case zl1 => exact rfl); (case zl2 => walk_at "up")))
local macro_rules | `(tactic| walk_at "z") => `(tactic| ((with_reducible refine' z_fldb ?zc1 ?zc2 ?zl1 ?zl2 ?_); (case zc1 => exact Lw.cl_Ratio (by assumption)); (case zc2 => exact Lw.na_Ratio_bottom (by assumption)); (case zl1 => exact rfl); (case zl2 => walk_at "up")))
local macro_rules | `(tactic| walk_at "z") => `(tactic| ((with_reducible refine' z_fldG ?zc1 ?zc2 ?zl0 ?zl1 ?zl2 ?_); (case zc1 => exact Lw.cl_Poly (by assumption)); (case zc2 => exact Lw.na_Poly_numbers (by assumption)); (case zl0 => exact rfl); (case zl1 => walk_at "up"); (case zl2 => exact lkA)))
local macro_rules | `(tactic| walk_at "z") => `(tactic| ((with_reducible refine' z_fldG ?zc1 ?zc2 ?zl0 ?zl1 ?zl2 ?_); (case zc1 => exact Lw.cl_Poly (by assumption)); (case zc2 => exact Lw.na_Poly_over (by assumption)); (case zl0 => exact rfl); (case zl1 => walk_at "up"); (case zl2 => exact lkO)))
local macro_rules | `(tactic| walk_at "z") => `(tactic| ((with_reducible refine' z_fldG ?zc1 ?zc2 ?zl0 ?zl1 ?zl2 ?_); (case zc1 => exact Lw.cl_Poly (by assumption)); (case zc2 => exact Lw.na_Poly_degree (by assumption)); (case zl0 => exact rfl); (case zl1 => walk_at "up"); (case zl2 => exact lkD)))
local macro_rules | `(tactic| walk_at "z") => `(tactic| ((with_reducible refine' z_isR ?zl1 ?zl2 ?zl3 ?_); (case zl1 => exact Lw.in_Ratio (by assumption)); (case zl2 => exact Lw.kt_Ratio_Ratio (by assumption)); (case zl3 => walk_at "up")))
theorem same30j {H H1 H2 : Hp} (h : Same H1 H2) (e : Same H H1) : Same H H2 := e.trans h
local macro_rules | `(tactic| walk_at "sm") => `(tactic| first
  | assumption
  | exact fun _ _ h => h
  | (refine' same30j (by assumption) ?zsm; case zsm => walk_at "sm"))
local macro_rules | `(tactic| walk_at "up") => `(tactic| first
  | assumption
  | (with_reducible refine' IsPool.mono (by assumption) ?zup; case zup => walk_at "up")
  | (with_reducible refine' IsR.mono (by assumption) ?zup; case zup => walk_at "up")
  | (with_reducible refine' IsV.mono (by assumption) ?zup; case zup => walk_at "up")
  | (with_reducible refine' IsQ.mono (by assumption) ?zup; case zup => walk_at "up")
  | (with_reducible refine' PQ.mono (by assumption) ?zup; case zup => walk_at "up")
  | (with_reducible refine' RL.mono (by assumption) ?zup; case zup => walk_at "up")
  | (with_reducible refine' PL.mono (by assumption) ?zup; case zup => walk_at "up")
  | (with_reducible refine' RB.mono (by assumption) ?zup; case zup => walk_at "up")
  | (with_reducible refine' PB.mono (by assumption) ?zup; case zup => walk_at "up")
  | (with_reducible refine' Same.at (by assumption) ?zup; case zup => walk_at "up")
  | (with_reducible refine' But.at (by assumption) ?zne ?zup; (case zne => (first | assumption | exact Ne.symm (by assumption))); (case zup => walk_at "up"))
  | (with_reducible refine' IsPool.of ?zup; case zup => walk_at "up")
  | fail)
local macro_rules | `(tactic| walk_at "bt") => `(tactic| first
  | assumption
  | exact fun _ _ _ h => h
  | (refine' But.trans ?zsm (by assumption); case zsm => walk_at "bt")
  | (refine' But.trans ?zsm (But.of (by assumption)); case zsm => walk_at "bt"))

open S31 (cf pb)
open S30
def fs_take : F3 := fun a b c H Q _ => ∃ (p : Addr) (k m : Int), a = .ref p ∧ b = .int k ∧ c = .int m ∧ IsPool H p ∧ 0 ≤ k ∧ 1 ≤ m ∧ m < 18446744073709551616 ∧ ∀ r H', 0 ≤ r → r < m → IsPool H' p → But p H H' → Q (.int r) H'
theorem u_take {p : Addr} {k m : Int} {H : Hp} {Q : VK} {E : XK} (h : IsPool H p) (h0 : 0 ≤ k) (h1 : 1 ≤ m) (h2 : m < 18446744073709551616) (q : ∀ r H', 0 ≤ r → r < m → IsPool H' p → But p H H' → Q (.int r) H') : sp3 fs_take [.ref p, .int k, .int m] H Q E := ⟨_, _, _, rfl, p, k, m, rfl, rfl, rfl, h, h0, h1, h2, q⟩
section
variable {P : Program} {w : World} {K : Frag} {mg : Str → Option Value} {base : Heap}
theorem ok_law_take (L : Lw K mg) {fd : FuncData} (F : FunD K "_law_take" "_law_take" (defArgs s_law_take) (defBody s_law_take) (defScope s_law_take) (df_law_take.dvs K) (df_law_take.kws K) (He.fAd K ("_law_take", none)) fd) : FnOk P w K mg base (L2N.CX P w) 1 (He.fAd K ("_law_take", none)) fd (["pool", "k", "many"] : List Str) (sp3 fs_take) := by
  refine FunD.ok F sc_law_take len3 (fun cdv A outer s H vs Q E hr h => ?_)
  obtain ⟨a, b, c, rfl, h⟩ := h
  refine ⟨_, (pss_cons (ps_if (pt_cmpR o_ge (pv 1) (pe_callB (callK rLen1 (K := K) rfl o_len) (by rfl) L.f_len (by decide +kernel) (pa_cons (pv 0) pa_nil)) (nomark _)) (pss_one (ps_ret pe_int)) pss_nil)
    (pss_cons (ps_set (i := 3) sc_law_take.nd rfl (by first | exact Or.inl rfl | exact Or.inr rfl) (pe_ix (ix_seqK (K := K) rfl) (pv 0) (pv 1) (fun _ _ => rfl)))
    (pss_cons (ps_asg (pe_op o_div (pv 3) (pv 2)) (pg_sub (pv 0) (pv 1) set_list))
    (pss_one (ps_ret (pe_op o_mod (pe_callTy o_int1 (by rfl) L.f_int (by decide +kernel) (pa_cons (pv 3) pa_nil)) (pv 2))))))), ?_⟩
  obtain ⟨p, k, m, rfl, rfl, rfl, ⟨ns, hp⟩, h0, h1, h2, q⟩ := h
  walk_at "zz"
  refine z_d2 (fun c => ?_) (fun c => ?_)
  · walk_at "zz"
    exact q 0 _ (by omega) (by omega) ⟨ns, hp⟩ (fun _ _ _ h => h)
  · rw [List.length_map] at c
    walk_at "zz"
    refine z_ixC hp h0 (by omega) ?_
    walk_at "zz"
    refine z_setL (j := k.toNat) hp (by omega) (by rw [List.length_map]; omega) ?_
    rw [set_int]
    walk_at "zz"
    refine z_mod (by omega) ?_
    exact q _ _ (Int.emod_nonneg _ (by omega)) (Int.emod_lt_of_pos _ (by omega)) ⟨_, upd_same⟩ But.set
theorem c_law_take (L : Lw K mg) : Cal P w K mg base 1 "_law_take" (sp3 fs_take) [] := by
  obtain ⟨fd, F⟩ := L.d_law_take
  exact ⟨⟨_, fd, ["pool", "k", "many"], [], ok_law_take L F, L.g_law_take, F.kp, F.bindsN (fun _ _ _ _ _ _ us hl => match us, hl with | [_, _, _], _ => rfl), .nil⟩⟩
end
local macro_rules | `(tactic| walk_at "z") => `(tactic| ((with_reducible refine' u_take ?zl1 ?zl2 ?zl3 ?zl4 ?_); (case zl1 => walk_at "up"); (case zl2 => omega); (case zl3 => omega); (case zl4 => omega); intro r H' r0 r1 hP hB))
def fs_turn : F4 := fun a b c d H Q _ => ∃ (p : Addr) (k m f : Int), a = .ref p ∧ b = .int k ∧ c = .int m ∧ d = .int f ∧ IsPool H p ∧ 0 ≤ k ∧ 1 ≤ m ∧ m < 18446744073709551616 ∧ ∀ r H', 0 ≤ r → r < m → IsPool H' p → But p H H' → Q (.int r) H'
theorem u_turn {p : Addr} {k m f : Int} {H : Hp} {Q : VK} {E : XK} (h : IsPool H p) (h0 : 0 ≤ k) (h1 : 1 ≤ m) (h2 : m < 18446744073709551616) (q : ∀ r H', 0 ≤ r → r < m → IsPool H' p → But p H H' → Q (.int r) H') : sp4 fs_turn [.ref p, .int k, .int m, .int f] H Q E := ⟨_, _, _, _, rfl, p, k, m, f, rfl, rfl, rfl, rfl, h, h0, h1, h2, q⟩
section
variable {P : Program} {w : World} {K : Frag} {mg : Str → Option Value} {base : Heap}
theorem ok_law_turn (L : Lw K mg) {fd : FuncData} (F : FunD K "_law_turn" "_law_turn" (defArgs s_law_turn) (defBody s_law_turn) (defScope s_law_turn) (df_law_turn.dvs K) (df_law_turn.kws K) (He.fAd K ("_law_turn", none)) fd) : FnOk P w K mg base (L2N.CX P w) 2 (He.fAd K ("_law_turn", none)) fd (["pool", "k", "many", "far"] : List Str) (sp4 fs_turn) := by
  refine FunD.ok F sc_law_turn len4 (fun cdv A outer s H vs Q E hr h => ?_)
  obtain ⟨a, b, c, d, rfl, h⟩ := h
  refine ⟨_, (pss_one (ps_ret (pe_op o_mod (pe_callTy o_int1 (by rfl) L.f_int (by decide +kernel) (pa_cons (pe_op o_cat (pe_c (c_law_take (K := K) L) hr (by decide) (L2N.takes_of rfl rfl rfl rfl) (pa_cons (pv 0) (pa_cons (pv 1) (pa_cons (pv 2) pa_nil)))) (pv 3)) pa_nil)) (pv 2)))), ?_⟩
  obtain ⟨p, k, m, f, rfl, rfl, rfl, rfl, hP, h0, h1, h2, q⟩ := h
  walk_at "zz"
  refine z_mod (by omega) ?_
  exact q _ _ (Int.emod_nonneg _ (by omega)) (Int.emod_lt_of_pos _ (by omega)) (by walk_at "up") (by assumption)
theorem c_law_turn (L : Lw K mg) : Cal P w K mg base 2 "_law_turn" (sp4 fs_turn) [] := by
  obtain ⟨fd, F⟩ := L.d_law_turn
  exact ⟨⟨_, fd, ["pool", "k", "many", "far"], [], ok_law_turn L F, L.g_law_turn, F.kp, F.bindsN (fun _ _ _ _ _ _ us hl => match us, hl with | [_, _, _, _], _ => rfl), .nil⟩⟩
end
local macro_rules | `(tactic| walk_at "z") => `(tactic| ((with_reducible refine' u_turn ?zl1 ?zl2 ?zl3 ?zl4 ?_); (case zl1 => walk_at "up"); (case zl2 => omega); (case zl3 => omega); (case zl4 => omega); intro r H' r0 r1 hP hB))

theorem gcd_fmod (u v : Int) : Int.gcd v (u.fmod v) = Int.gcd u v := by
  rw [Int.fmod_def, Int.gcd_comm v]
  have : u - v * u.fdiv v = u + v * (-(u.fdiv v)) := by rw [Int.mul_neg]; omega
  rw [this, Int.gcd_add_mul_left_left]
theorem fmod_lt {u v : Int} (h : v ≠ 0) : (u.fmod v).natAbs < v.natAbs := by
  rw [Int.fmod_eq_emod]
  have a := Int.emod_nonneg u h
  have b : u % v < v.natAbs := by
    have := Int.emod_lt_of_pos u (show 0 < ((v.natAbs : Nat) : Int) by omega)
    rcases Int.lt_or_gt_of_ne h with c | c
    · rw [show ((v.natAbs : Nat) : Int) = -v by omega, Int.emod_neg] at this
      omega
    · rw [show ((v.natAbs : Nat) : Int) = v by omega] at this
      omega
  have c : v ∣ u ↔ u % v = 0 := Int.dvd_iff_emod_eq_zero
  split
  · omega
  · rename_i q
    have : ¬ u % v = 0 := fun z => q (.inr (c.mpr z))
    omega
def fs_gcd : F2 := fun a b H Q _ => ∃ i j : Int, a = .int i ∧ b = .int j ∧ Q (.int (Int.gcd i j : Nat)) H
theorem u_gcd {H : Hp} {Q : VK} {E : XK} {i j : Int} (q : Q (.int (Int.gcd i j : Nat)) H) : sp2 fs_gcd [.int i, .int j] H Q E := ⟨_, _, rfl, i, j, rfl, rfl, q⟩
def fs_whole : F1 := fun a H Q _ => ∃ i : Int, a = .int i ∧ Q (.int i) H
/-- one of nums, moved by a line -/
def tl (a b : Int) (f : Nat → Int) (k : Nat) : Int := f k * a + (if k = 0 then 0 else f (k - 1) * b)
/-- .. the first j of them -/
def tlj (a b : Int) (f : Nat → Int) (j k : Nat) : Int := (if k < j then f k * a else 0) + (if k = 0 then 0 else if k - 1 < j then f (k - 1) * b else 0)
theorem tlj_0 {a b : Int} {f : Nat → Int} {k : Nat} : 0 = tlj a b f 0 k := by
  unfold tlj
  grind
theorem tlj_step {a b : Int} {f : Nat → Int} {j k : Nat} : (if k = j + 1 then (if j + 1 = j then tlj a b f j j + f j * a else tlj a b f j (j + 1)) + f j * b else if k = j then tlj a b f j j + f j * a else tlj a b f j k) = tlj a b f (j + 1) k := by
  unfold tlj
  grind
theorem tlj_end {a b : Int} {ns : List Int} {k : Nat} {n : Nat} (h : ns.length ≤ n) : tlj a b (cf ns) n k = tl a b (cf ns) k := by
  unfold tlj tl
  have h0 : ∀ k, ns.length ≤ k → cf ns k = 0 := fun k hk => S31.cf_out hk
  have h1 := h0 k
  have h2 := h0 (k - 1)
  grind
def fs_times : F3 := fun a b c H Q _ => ∃ (p : Addr) (ns : List Int) (u v : Int), a = .ref p ∧ b = .int u ∧ c = .int v ∧ H p = some (.lst (ns.map V.int)) ∧ ns.length ≤ 1000 ∧ Bits 60 u ∧ Bits 60 v ∧
  ∀ r H' rs, H r = none → Same H H' → H' r = some (.lst (rs.map V.int)) → rs.length = ns.length + 1 → (∀ k, cf rs k = tl u v (cf ns) k) → Q (.ref r) H'
theorem u_times {H : Hp} {Q : VK} {E : XK} {p : Addr} {ns : List Int} {u v : Int} (h : H p = some (.lst (ns.map V.int))) (hl : ns.length ≤ 1000) (hu : Bits 60 u) (hv : Bits 60 v)
    (k : ∀ r H' rs, H r = none → Same H H' → H' r = some (.lst (rs.map V.int)) → rs.length = ns.length + 1 → (∀ k, cf rs k = tl u v (cf ns) k) → Q (.ref r) H') : sp3 fs_times [.ref p, .int u, .int v] H Q E := ⟨_, _, _, rfl, p, ns, u, v, rfl, rfl, rfl, h, hl, hu, hv, k⟩
def fs_is (K : Frag) : F3 := fun a b c H Q _ => ∃ (p : Addr) (v : Rat) (D : Nat) (t d : Int), a = .ref p ∧ b = .int t ∧ c = .int d ∧ IsV K H p v D ∧ Bits D t ∧ Bits D d ∧ D ≤ 400000 ∧ 0 < d ∧ (t : Rat) = v * (d : Rat) ∧ Q (.bl true) H
def fs_are (K : Frag) : F2 := fun a b H Q _ => ∃ (p q : Addr) (n D : Nat) (v : Sq), a = .ref p ∧ b = .ref q ∧ RL K H p n v D ∧ PL H q n v D ∧ D ≤ 400000 ∧ n ≤ 1000 ∧ Q (.bl true) H
theorem u_are {K : Frag} {H : Hp} {Q : VK} {E : XK} {p q : Addr} {n D : Nat} {v : Sq} (h1 : RL K H p n v D) (h2 : PL H q n v D) (hD : D ≤ 400000) (hn : n ≤ 1000) (k : Q (.bl true) H) : sp2 (fs_are K) [.ref p, .ref q] H Q E := ⟨_, _, rfl, p, q, n, D, v, rfl, rfl, h1, h2, hD, hn, k⟩
section
variable {P : Program} {w : World} {K : Frag} {mg : Str → Option Value} {base : Heap}
theorem ok_law_gcd (L : Lw K mg) {fd : FuncData} (F : FunD K "_law_gcd" "_law_gcd" (defArgs s_law_gcd) (defBody s_law_gcd) (defScope s_law_gcd) (df_law_gcd.dvs K) (df_law_gcd.kws K) (He.fAd K ("_law_gcd", none)) fd) : FnOk P w K mg base (L2N.CX P w) 1 (He.fAd K ("_law_gcd", none)) fd (["a", "b"] : List Str) (sp2 fs_gcd) := by
  refine FunD.ok F sc_law_gcd len2 (fun cdv A outer s H vs Q E hr h => ?_)
  obtain ⟨a, b, rfl, h⟩ := h
  refine ⟨_, (pss_cons (ps_while (passes_of rfl) (pt_cmpR op_ne (pv 1) pe_int (nomark _)) (pss_one (ps_par (i := 0) (j := 1) (by rfl) sc_law_gcd.nd rfl rfl (by decide) rfl rfl (pa_cons (pv 1) (pa_cons (pe_op op_modN (pe_callTy o_int1 (by rfl) L.f_int (by decide +kernel) (pa_cons (pv 0) pa_nil)) (pv 1)) pa_nil)) (by rfl))))
    (pss_one (ps_ret (pe_callB o_abs (by rfl) L.f_abs (by decide +kernel) (pa_cons (pv 0) pa_nil))))), ?_⟩
  obtain ⟨i, j, rfl, rfl, q⟩ := h
  walk_at "zz"
  refine ⟨fun m σ' H' => ∃ u v : Int, σ' = [some (.int u), some (.int v)] ∧ H' = H ∧ m = v.natAbs ∧ Int.gcd u v = Int.gcd i j, ⟨_, _, _, rfl, rfl, rfl, rfl⟩, ?_⟩
  rintro m σ' H' ⟨u, v, rfl, rfl, rfl, e⟩
  walk_at "zz"
  refine z_d2 (fun c => ?_) (fun c => ?_)
  · subst c
    walk_at "zz"
    rw [Int.gcd_zero_right] at e
    rw [e]
    exact q
  · refine ⟨_, fun _ _ h => h, ?_⟩
    walk_at "zz"
    refine ⟨_, _, rfl, rfl, c, ?_⟩
    walk_at "zz"
    exact ⟨_, fmod_lt (u := u) c, _, _, rfl, rfl, rfl, by rw [gcd_fmod]; exact e⟩
theorem c_law_gcd (L : Lw K mg) : Cal P w K mg base 1 "_law_gcd" (sp2 fs_gcd) [] := by
  obtain ⟨fd, F⟩ := L.d_law_gcd
  exact ⟨⟨_, fd, ["a", "b"], [], ok_law_gcd L F, L.g_law_gcd, F.kp, F.bindsN (fun _ _ _ _ _ _ us hl => match us, hl with | [_, _], _ => rfl), .nil⟩⟩
theorem ok_law_whole (L : Lw K mg) {fd : FuncData} (F : FunD K "_law_whole" "_law_whole" (defArgs s_law_whole) (defBody s_law_whole) (defScope s_law_whole) (df_law_whole.dvs K) (df_law_whole.kws K) (He.fAd K ("_law_whole", none)) fd) : FnOk P w K mg base (L2N.CX P w) 1 (He.fAd K ("_law_whole", none)) fd (["x"] : List Str) (sp1 fs_whole) := by
  refine FunD.ok F sc_law_whole len1 (fun cdv A outer s H vs Q E hr h => ?_)
  obtain ⟨a, rfl, h⟩ := h
  refine ⟨_, (pss_cons (ps_if (PW.pt (pw_and (pt_val (pe_callB (callK rIsi (K := K) rfl call_isi) (by rfl) L.f_isinstance (by decide +kernel) (pa_cons (pv 0) (pa_cons (pe_ty "int" (by rfl) L.f_int (by decide +kernel)) pa_nil)))) (pw_and1 (pt_not (pt_val (pe_callB (callK rIsi (K := K) rfl call_isi) (by rfl) L.f_isinstance (by decide +kernel) (pa_cons (pv 0) (pa_cons (pe_ty "bool" (by rfl) L.f_bool (by decide +kernel)) pa_nil)))))))) (pss_one (ps_ret (pv 0))) pss_nil)
    (pss_one (ps_ret (pe_un o_neg pe_int)))), ?_⟩
  obtain ⟨i, rfl, q⟩ := h
  walk_at "zz"
  exact q
theorem c_law_whole (L : Lw K mg) : Cal P w K mg base 1 "_law_whole" (sp1 fs_whole) [] := by
  obtain ⟨fd, F⟩ := L.d_law_whole
  exact ⟨⟨_, fd, ["x"], [], ok_law_whole L F, L.g_law_whole, F.kp, F.bindsN (fun _ _ _ _ _ _ us hl => match us, hl with | [_], _ => rfl), .nil⟩⟩
theorem ch_law_whole (L : Lw K mg) : CalH P w K mg base 1 "_law_whole" (sp1 fs_whole) := by
  obtain ⟨fd, F⟩ := L.d_law_whole
  refine ⟨_, fd, ["x"], okH F sc_law_whole len1 (fun cdv A outer s H vs Q E p hot1 hrH h => ?_), L.g_law_whole, F.kp, F.bindsN (fun _ _ _ _ _ _ us hl => match us, hl with | [_], _ => rfl)⟩
  obtain ⟨a, rfl, h⟩ := h
  refine ⟨_, (pss_cons (ps_if (PW.pt (pw_and (pt_val (pe_callB (callK rIsi (K := K) rfl call_isi) (by rfl) L.f_isinstance (by decide +kernel) (pa_cons (pv 0) (pa_cons (pe_ty "int" (by rfl) L.f_int (by decide +kernel)) pa_nil)))) (pw_and1 (pt_not (pt_val (pe_callB (callK rIsi (K := K) rfl call_isi) (by rfl) L.f_isinstance (by decide +kernel) (pa_cons (pv 0) (pa_cons (pe_ty "bool" (by rfl) L.f_bool (by decide +kernel)) pa_nil)))))))) (pss_one (ps_ret (pv 0))) pss_nil)
    (pss_one (ps_ret (pe_un o_neg pe_int)))), ?_⟩
  obtain ⟨i, rfl, q⟩ := h
  walk_at "zz"
  exact q
theorem ok_law_times_line (L : Lw K mg) {fd : FuncData} (F : FunD K "_law_times_line" "_law_times_line" (defArgs s_law_times_line) (defBody s_law_times_line) (defScope s_law_times_line) (df_law_times_line.dvs K) (df_law_times_line.kws K) (He.fAd K ("_law_times_line", none)) fd) : FnOk P w K mg base (L2N.CX P w) 1 (He.fAd K ("_law_times_line", none)) fd (["nums", "a", "b"] : List Str) (sp3 fs_times) := by
  refine FunD.ok F sc_law_times_line len3 (fun cdv A outer s H vs Q E hr h => ?_)
  obtain ⟨a, b, c, rfl, h⟩ := h
  refine ⟨_, (pss_cons (ps_set (i := 3) sc_law_times_line.nd rfl (by first | exact Or.inl rfl | exact Or.inr rfl) (pe_op o_rep (pe_lst (pa_cons pe_int pa_nil)) (pe_op o_cat (pe_callB (callK rLen1 (K := K) rfl o_len) (by rfl) L.f_len (by decide +kernel) (pa_cons (pv 0) pa_nil)) pe_int)))
    (pss_cons (ps_for (passes_of rfl) rfl (pi_range1 (by rfl) L.f_range (pa_cons (pe_callB (callK rLen1 (K := K) rfl o_len) (by rfl) L.f_len (by decide +kernel) (pa_cons (pv 0) pa_nil)) pa_nil)) (pg_name (i := 4) sc_law_times_line.nd rfl (by first | exact Or.inl rfl | exact Or.inr rfl)) (pss_cons (ps_asg (pe_op o_cat (pe_ix (ix_seqK (K := K) rfl) (pv 3) (pv 4) (fun _ _ => rfl)) (pe_op o_rep (pe_ix (ix_seqK (K := K) rfl) (pv 0) (pv 4) (fun _ _ => rfl)) (pv 1))) (pg_sub (pv 3) (pv 4) set_list))
    (pss_one (ps_asg (pe_op o_cat (pe_ix (ix_seqK (K := K) rfl) (pv 3) (pe_op o_cat (pv 4) pe_int) (fun _ _ => rfl)) (pe_op o_rep (pe_ix (ix_seqK (K := K) rfl) (pv 0) (pv 4) (fun _ _ => rfl)) (pv 2))) (pg_sub (pv 3) (pe_op o_cat (pv 4) pe_int) set_list)))))
    (pss_one (ps_ret (pv 3))))), ?_⟩
  obtain ⟨p, ns, u, v, rfl, rfl, rfl, hp, hl, hu, hv, k⟩ := h
  obtain ⟨u1, u2⟩ := bits_lt hu (by decide)
  obtain ⟨v1, v2⟩ := bits_lt hv (by decide)
  walk_at "zz"
  rename_i p0 H0 hp0 s0 e0
  rw [List.length_map]
  refine z_rep1 e0 (by omega) (by omega) (fun N H1 hN s1 eN => ?_)
  have hN0 : H N = none := Same.none s0 hN
  have sH1 := s0.trans s1
  rw [← List.map_replicate] at eN
  have eln : ((ns.length : Int) + 1).toNat = ns.length + 1 := by omega
  rw [eln] at eN
  walk_at "zz"
  rw [List.length_map]
  refine z_foR (by omega) (by omega) (fun j σ' H' => ∃ (rs : List Int) (x : Option V), σ' = [some (.ref p), some (.int u), some (.int v), some (.ref N), x] ∧ Same H H' ∧ H' N = some (.lst (rs.map V.int)) ∧ rs.length = ns.length + 1 ∧ ∀ k, cf rs k = tlj u v (cf ns) j k) ⟨_, _, rfl, sH1, eN, by simp, fun k => by
    have : cf (List.replicate (ns.length + 1) (0 : Int)) k = 0 := by
      unfold cf
      simp [List.getD_eq_getElem?_getD, List.getElem?_replicate]
      split <;> rfl
    rw [this, tlj_0]⟩ ?_ ?_
  · rintro j σ' H' hj ⟨rs, x, rfl, sH, eN', hlen, hcf⟩
    have hj' : j < ns.length := by omega
    have hp' := sH _ _ hp
    walk_at "zz"
    refine z_ixcf (j := j) eN' rfl (by omega) ?_
    walk_at "zz"
    refine z_ixcf (j := j) hp' rfl (by omega) ?_
    walk_at "zz"
    refine z_setL (j := j) eN' rfl (by rw [List.length_map]; omega) ?_
    rw [set_int]
    have a1 : (upd H' N (.lst ((rs.set j (cf rs j + cf ns j * u)).map V.int))) N = some (.lst ((rs.set j (cf rs j + cf ns j * u)).map V.int)) := upd_same
    have a2 : Same H (upd H' N (.lst ((rs.set j (cf rs j + cf ns j * u)).map V.int))) := Same.put sH hN0
    generalize (upd H' N (.lst ((rs.set j (cf rs j + cf ns j * u)).map V.int))) = H5 at *
    have hp5 := a2 _ _ hp
    walk_at "zz"
    refine z_ixcf (j := j + 1) a1 rfl (by rw [List.length_set]; omega) ?_
    walk_at "zz"
    refine z_ixcf (j := j) hp5 rfl (by omega) ?_
    walk_at "zz"
    refine z_setL (j := j + 1) a1 rfl (by rw [List.length_map, List.length_set]; omega) ?_
    rw [set_int]
    refine ⟨_, _, rfl, Same.put a2 hN0, upd_same, by rw [List.length_set, List.length_set]; exact hlen, fun k => ?_⟩
    rw [cf_set (by rw [List.length_set]; omega), cf_set (by omega), cf_set (by omega), hcf, hcf, hcf]
    exact tlj_step
  · rintro σ' H' ⟨rs, x, rfl, sH, eN', hlen, hcf⟩
    walk_at "zz"
    refine k N H' rs hN0 sH eN' hlen (fun k => ?_)
    rw [hcf]
    exact tlj_end (by omega)
theorem c_law_times_line (L : Lw K mg) : Cal P w K mg base 1 "_law_times_line" (sp3 fs_times) [] := by
  obtain ⟨fd, F⟩ := L.d_law_times_line
  exact ⟨⟨_, fd, ["nums", "a", "b"], [], ok_law_times_line L F, L.g_law_times_line, F.kp, F.bindsN (fun _ _ _ _ _ _ us hl => match us, hl with | [_, _, _], _ => rfl), .nil⟩⟩
theorem ok_law_is (L : Lw K mg) {fd : FuncData} (F : FunD K "_law_is" "_law_is" (defArgs s_law_is) (defBody s_law_is) (defScope s_law_is) (df_law_is.dvs K) (df_law_is.kws K) (He.fAd K ("_law_is", none)) fd) : FnOk P w K mg base (L2N.CX P w) 1 (He.fAd K ("_law_is", none)) fd (["told", "top", "bottom"] : List Str) (sp3 (fs_is K)) := by
  refine FunD.ok F sc_law_is len3 (fun cdv A outer s H vs Q E hr h => ?_)
  obtain ⟨a, b, c, rfl, h⟩ := h
  refine ⟨_, (pss_cons (ps_if (PW.pt (pw_or (pt_not (pt_val (pe_callB (callK rIsi (K := K) rfl call_isi) (by rfl) L.f_isinstance (by decide +kernel) (pa_cons (pv 0) (pa_cons (pe_cls L.g_Ratio) pa_nil))))) (pw_or1 (pt_cmpR o_lt (pe_fld (pv 0) rfl) pe_int (nomark _))))) (pss_one (ps_ret pe_bl)) pss_nil)
    (pss_one (ps_ret (pe_cmpR op_eq (pe_op o_rep (pe_fld (pv 0) rfl) (pv 2)) (pe_op o_rep (pv 1) (pe_fld (pv 0) rfl)) (nomark _))))), ?_⟩
  obtain ⟨p, v, D, t, d, rfl, rfl, rfl, ⟨t', d', hr, d0', tb', db', e'⟩, tb, db, hD, d0, e, q⟩ := h
  walk_at "zz"
  refine z_dF (by omega) ?_
  walk_at "zz"
  refine z_repU tb' db (by omega) ?_
  walk_at "zz"
  refine z_repU tb db' (by omega) ?_
  walk_at "zz"
  have eq : t' * d = t * d' := by
    have : ((t' * d : Int) : Rat) = ((t * d' : Int) : Rat) := by
      rw [Rat.intCast_mul, Rat.intCast_mul, e, e']
      grind
    exact_mod_cast this
  rw [decide_eq_true eq]
  exact q
theorem c_law_is (L : Lw K mg) : Cal P w K mg base 1 "_law_is" (sp3 (fs_is K)) [] := by
  obtain ⟨fd, F⟩ := L.d_law_is
  exact ⟨⟨_, fd, ["told", "top", "bottom"], [], ok_law_is L F, L.g_law_is, F.kp, F.bindsN (fun _ _ _ _ _ _ us hl => match us, hl with | [_, _, _], _ => rfl), .nil⟩⟩
theorem ok_law_are (L : Lw K mg) {fd : FuncData} (F : FunD K "_law_are" "_law_are" (defArgs s_law_are) (defBody s_law_are) (defScope s_law_are) (df_law_are.dvs K) (df_law_are.kws K) (He.fAd K ("_law_are", none)) fd) : FnOk P w K mg base (L2N.CX P w) 2 (He.fAd K ("_law_are", none)) fd (["told", "numbers"] : List Str) (sp2 (fs_are K)) := by
  refine FunD.ok F sc_law_are len2 (fun cdv A outer s H vs Q E hr h => ?_)
  obtain ⟨a, b, rfl, h⟩ := h
  refine ⟨_, (pss_cons (ps_if (PW.pt (pw_or (pt_not (pt_val (pe_callB (callK rIsi (K := K) rfl call_isi) (by rfl) L.f_isinstance (by decide +kernel) (pa_cons (pv 0) (pa_cons (pe_ty "list" (by rfl) L.f_list (by decide +kernel)) pa_nil))))) (pw_or1 (pt_cmpR op_ne (pe_callB (callK rLen1 (K := K) rfl o_len) (by rfl) L.f_len (by decide +kernel) (pa_cons (pv 0) pa_nil)) (pe_callB (callK rLen1 (K := K) rfl o_len) (by rfl) L.f_len (by decide +kernel) (pa_cons (pv 1) pa_nil)) (nomark _))))) (pss_one (ps_ret pe_bl)) pss_nil)
    (pss_cons (ps_for (passes_of rfl) rfl (pi_range1 (by rfl) L.f_range (pa_cons (pe_callB (callK rLen1 (K := K) rfl o_len) (by rfl) L.f_len (by decide +kernel) (pa_cons (pv 1) pa_nil)) pa_nil)) (pg_name (i := 2) sc_law_are.nd rfl (by first | exact Or.inl rfl | exact Or.inr rfl)) (pss_one (ps_if (pt_not (pt_val (pe_c (c_law_is (K := K) L) hr (by decide) (L2N.takes_of rfl rfl rfl rfl) (pa_cons (pe_ix (ix_seqK (K := K) rfl) (pv 0) (pv 2) (fun _ _ => rfl)) (pa_cons (pe_ix (ix_seqK (K := K) rfl) (pe_ix (ix_seqK (K := K) rfl) (pv 1) (pv 2) (fun _ _ => rfl)) pe_int (fun _ _ => rfl)) (pa_cons (pe_ix (ix_seqK (K := K) rfl) (pe_ix (ix_seqK (K := K) rfl) (pv 1) (pv 2) (fun _ _ => rfl)) pe_int (fun _ _ => rfl)) pa_nil)))))) (pss_one (ps_ret pe_bl)) pss_nil)))
    (pss_one (ps_ret pe_bl)))), ?_⟩
  obtain ⟨p, r, n, D, v, rfl, rfl, ⟨xs, hx, lx, ix⟩, ⟨ys, hy, ly, iy⟩, hD, hn, q⟩ := h
  walk_at "zz"
  refine z_isi (.ty "list") (.base (.lst hx)) (c := .ty "list") (t := .type "list") (b := true) (kit_ty (by decide +kernel)) ?_
  walk_at "zz"
  rw [lx, ly]
  refine z_dT rfl ?_
  walk_at "zz"
  rw [ly]
  refine z_foR (by omega) (by omega) (fun j σ' H' => ∃ x : Option V, σ' = [some (.ref p), some (.ref r), x] ∧ H' = H) ⟨_, rfl, rfl⟩ ?_ ?_
  · rintro j σ' H' hj ⟨x, rfl, rfl⟩
    have hj' : j < n := by omega
    have e1 : xs[j]? = some (xs[j]'(by omega)) := List.getElem?_eq_getElem _
    have e2 : ys[j]? = some (ys[j]'(by omega)) := List.getElem?_eq_getElem _
    obtain ⟨a, ea, hv⟩ := ix j _ e1
    obtain ⟨b, t, d, eb, hb, d0, tb, db, e⟩ := iy j _ e2
    rw [ea] at e1
    rw [eb] at e2
    walk_at "zz"
    refine z_ixL (SqL.of hx) (atI_nat e1) ?_
    walk_at "zz"
    refine z_ixL (SqL.of hy) (atI_nat e2) ?_
    walk_at "zz"
    refine z_ixL (SqL.of hy) (atI_nat e2) ?_
    walk_at "zz"
    refine ⟨_, _, _, rfl, a, v j, D, t, d, rfl, rfl, rfl, hv, tb, db, hD, d0, e, ?_⟩
    walk_at "zz"
    exact ⟨_, rfl, rfl⟩
  · rintro σ' H' ⟨x, rfl, rfl⟩
    walk_at "zz"
    exact q
theorem c_law_are (L : Lw K mg) : Cal P w K mg base 2 "_law_are" (sp2 (fs_are K)) [] := by
  obtain ⟨fd, F⟩ := L.d_law_are
  exact ⟨⟨_, fd, ["told", "numbers"], [], ok_law_are L F, L.g_law_are, F.kp, F.bindsN (fun _ _ _ _ _ _ us hl => match us, hl with | [_, _], _ => rfl), .nil⟩⟩
end
end T

set_option maxHeartbeats 4000000
namespace T
open PySem PySem.Spec PyProof.Rows L2 Z
/-! the readings' steps, as one word: walk_at "z" (one step), "zz" (as far as it goes), "up" (a fact carried here) -/
local macro_rules | `(tactic| walk_at "up") => `(tactic| first
  | assumption
  | (refine' IsR.mono (by assumption) ?zup; case zup => walk_at "up")
  | (refine' IsE.mono (by assumption) ?zup; case zup => walk_at "up")
  | (refine' Same.at (by assumption) ?zup; case zup => walk_at "up")
  | (refine' SqL.of ?zup; case zup => walk_at "up")
  | (refine' L2.Same.seq (by assumption) ?zup; case zup => walk_at "up"))
local macro_rules | `(tactic| walk_at "z") => `(tactic| first
  | ((with_reducible refine' z_var ?zvh ?_); (case zvh => exact rfl))
  | with_reducible refine z_c ?_
  | with_reducible refine z_cons ?_
  | with_reducible refine z_nil ?_
  | with_reducible refine z_op ?_
  | with_reducible refine z_nx ?_
  | with_reducible refine z_seq ?_
  | with_reducible refine z_asg ?_
  | with_reducible refine z_asgG ?_
  | with_reducible refine z_call ?_
  | with_reducible refine z_sq0 ?_
  | with_reducible refine z_sq1 ?_
  | with_reducible refine z_ifS ?_
  | with_reducible refine z_test ?_
  | with_reducible refine z_tb ?_
  | with_reducible refine z_bl ?_
  | with_reducible refine z_blI ?_
  | with_reducible refine z_ret ?_
  | with_reducible refine z_rt ?_
  | with_reducible refine z_T ?_
  | with_reducible refine z_F ?_
  | with_reducible refine z_add ?_
  | with_reducible refine z_sub ?_
  | with_reducible refine z_neg ?_
  | with_reducible refine z_un ?_
  | with_reducible refine z_eqI ?_
  | with_reducible refine z_neI ?_
  | with_reducible refine z_lt ?_
  | with_reducible refine z_le ?_
  | with_reducible refine z_gt ?_
  | with_reducible refine z_ge ?_
  | with_reducible refine z_not ?_
  | with_reducible refine z_and ?_
  | with_reducible refine z_or ?_
  | with_reducible refine z_andV ?_
  | with_reducible refine z_orV ?_
  | with_reducible refine z_notV ?_
  | with_reducible refine z_if ?_
  | with_reducible refine z_cb ?_
  | with_reducible refine z_int1 ?_
  | with_reducible refine z_intb ?_
  | with_reducible refine z_abs ?_
  | with_reducible refine z_gcd ?_
  | with_reducible refine z_isi_ii ?_
  | with_reducible refine z_isi_ib ?_
  | with_reducible refine z_next ?_
  | with_reducible refine z_drop ?_
  | with_reducible refine z_par ?_
  | with_reducible refine z_par2 ?_
  | with_reducible refine z_tupN ?_
  | with_reducible refine z_lstN ?_
  | ((with_reducible refine' z_nt ?zl1 ?_); (case zl1 => exact Nat.le_of_ble_eq_true rfl); intro p H' hp hs he)
  | ((with_reducible refine' z_gtup ?zl1 ?zl2 ?_); (case zl1 => walk_at "up"); (case zl2 => exact rfl))
  | with_reducible refine z_bk ?_
  | with_reducible refine z_ct ?_
  | with_reducible refine z_break ?_
  | with_reducible refine z_cont ?_
  | with_reducible refine z_retN ?_
  | with_reducible refine z_nn ?_
  | with_reducible refine z_mk ?_
  | with_reducible refine z_gn ?_
  | with_reducible refine z_gcons ?_
  | with_reducible refine z_gnil ?_
  | with_reducible refine z_mt ?_
  | with_reducible refine z_mko ?_
  | with_reducible refine z_for2 ?_
  | with_reducible refine z_ownI ?_
  | ((with_reducible refine' z_lenL ?zl1 ?_); (case zl1 => walk_at "up"))
  | ((with_reducible refine' z_ixT ?zl1 ?zl2 ?_); (case zl1 => walk_at "up"); (case zl2 => exact rfl))
  | ((with_reducible refine' z_mulL ?zl1 ?zl2 ?_); (case zl1 => omega); (case zl2 => omega))
  | ((with_reducible refine' z_mulR ?zl1 ?zl2 ?_); (case zl1 => omega); (case zl2 => omega))
  | ((with_reducible refine' z_divS ?zl1 ?zl2 ?_); (case zl1 => omega); (case zl2 => omega))
  | ((with_reducible refine' z_mulW ?zl1 ?zl2 ?zl3 ?zl4 ?_); (case zl1 => omega); (case zl2 => omega); (case zl3 => omega); (case zl4 => omega))
  | ((with_reducible refine' z_divW ?zl1 ?zl2 ?_); (case zl1 => omega); (case zl2 => omega)))
local macro_rules | `(tactic| walk_at "zz") => `(tactic| repeat (walk_at "z"))
local macro_rules | `(tactic| walk_at "z") => `(tactic| with_reducible refine z_lstN ?_)
local macro_rules | `(tactic| walk_at "z") => `(tactic| with_reducible refine z_p6 ?_)
local macro_rules | `(tactic| walk_at "z") => `(tactic| with_reducible refine z_p12 ?_)
local macro_rules | `(tactic| walk_at "z") => `(tactic| with_reducible refine z_p13 ?_)
local macro_rules | `(tactic| walk_at "z") => `(tactic| with_reducible refine z_calln ?_)
local macro_rules | `(tactic| walk_at "z") => `(tactic| with_reducible refine z_xfS ?_)
local macro_rules | `(tactic| walk_at "z") => `(tactic| with_reducible refine z_lcS ?_)
local macro_rules | `(tactic| walk_at "z") => `(tactic| with_reducible refine z_lcRS ?_)
local macro_rules | `(tactic| walk_at "z") => `(tactic| with_reducible refine z_lcZS ?_)
local macro_rules | `(tactic| walk_at "z") => `(tactic| with_reducible refine z_foS ?_)
local macro_rules | `(tactic| walk_at "z") => `(tactic| with_reducible refine z_for1 ?_)
local macro_rules | `(tactic| walk_at "z") => `(tactic| with_reducible refine z_tsl ?_)
local macro_rules | `(tactic| walk_at "z") => `(tactic| with_reducible refine z_np ?_)
local macro_rules | `(tactic| walk_at "z") => `(tactic| with_reducible refine z_pt ?_)
local macro_rules | `(tactic| walk_at "z") => `(tactic| with_reducible refine z_pti ?_)
local macro_rules | `(tactic| walk_at "z") => `(tactic| with_reducible refine z_catI ?_)
local macro_rules | `(tactic| walk_at "z") => `(tactic| with_reducible refine z_isNI ?_)
local macro_rules | `(tactic| walk_at "z") => `(tactic| with_reducible refine z_isNN ?_)
local macro_rules | `(tactic| walk_at "z") => `(tactic| with_reducible refine z_notNI ?_)
local macro_rules | `(tactic| walk_at "z") => `(tactic| with_reducible refine z_notNN ?_)
local macro_rules | `(tactic| walk_at "z") => `(tactic| with_reducible refine z_gsub ?_)
local macro_rules | `(tactic| walk_at "z") => `(tactic| with_reducible refine z_isNb ?_)
local macro_rules | `(tactic| walk_at "z") => `(tactic| with_reducible refine z_notNb ?_)
local macro_rules | `(tactic| walk_at "z") => `(tactic| ((with_reducible refine' z_nlR ?zl1 ?_); (case zl1 => exact Nat.le_of_ble_eq_true rfl); intro p H' hp hs he))
local macro_rules | `(tactic| walk_at "z") => `(tactic| ((with_reducible refine' z_repR ?zl1 ?zl2 ?_); (case zl1 => omega); (case zl2 => omega)))
local macro_rules | `(tactic| walk_at "z") => `(tactic| ((with_reducible refine' z_repL ?zl1 ?zl2 ?_); (case zl1 => omega); (case zl2 => omega)))
local macro_rules | `(tactic| walk_at "z") => `(tactic| ((with_reducible refine' z_lenLst ?zl1 ?_); (case zl1 => walk_at "up")))
local macro_rules | `(tactic| walk_at "z") => `(tactic| ((with_reducible refine' z_cat ?zl1 ?zl2 ?zl3 ?_); (case zl1 => walk_at "up"); (case zl2 => walk_at "up"); (case zl3 => (simp only [List.length_map, List.length_cons, List.length_nil, List.length_append, List.length_replicate]; omega)); intro p H' hp hs he))
local macro_rules | `(tactic| walk_at "z") => `(tactic| with_reducible refine z_sfl ?_)
local macro_rules | `(tactic| walk_at "z") => `(tactic| with_reducible refine z_lcES ?_)
local macro_rules | `(tactic| walk_at "z") => `(tactic| with_reducible refine z_lcMS ?_)
local macro_rules | `(tactic| walk_at "z") => `(tactic| with_reducible refine z_foES ?_)
local macro_rules | `(tactic| walk_at "z") => `(tactic| with_reducible refine z_fo3S ?_)
local macro_rules | `(tactic| walk_at "z") => `(tactic| with_reducible refine z_sta ?_)
local macro_rules | `(tactic| walk_at "z") => `(tactic| with_reducible refine z_sta1 ?_)
local macro_rules | `(tactic| walk_at "z") => `(tactic| with_reducible refine z_lcTS ?_)
local macro_rules | `(tactic| walk_at "z") => `(tactic| with_reducible refine z_foTS ?_)
local macro_rules | `(tactic| walk_at "z") => `(tactic| ((with_reducible refine' z_fldt ?zc1 ?zc2 ?zl1 ?zl2 ?_); (case zc1 => exact Lw.cl_Ratio (by assumption)); (case zc2 => exact Lw.na_Ratio_top (by assumption)); (case zl1 => exact rfl); (case zl2 => walk_at "up")))
local macro_rules | `(tactic| walk_at "z") => `(tactic| ((with_reducible refine' z_fldb ?zc1 ?zc2 ?zl1 ?zl2 ?_); (case zc1 => exact Lw.cl_Ratio (by assumption)); (case zc2 => exact Lw.na_Ratio_bottom (by assumption)); (case zl1 => exact rfl); (case zl2 => walk_at "up")))
local macro_rules | `(tactic| walk_at "z") => `(tactic| ((with_reducible refine' z_fldG ?zc1 ?zc2 ?zl0 ?zl1 ?zl2 ?_); (case zc1 => exact Lw.cl_Poly (by assumption)); (case zc2 => exact Lw.na_Poly_numbers (by assumption)); (case zl0 => exact rfl); (case zl1 => walk_at "up"); (case zl2 => exact lkA)))
local macro_rules | `(tactic| walk_at "z") => `(tactic| ((with_reducible refine' z_fldG ?zc1 ?zc2 ?zl0 ?zl1 ?zl2 ?_); (case zc1 => exact Lw.cl_Poly (by assumption)); (case zc2 => exact Lw.na_Poly_over (by assumption)); (case zl0 => exact rfl); (case zl1 => walk_at "up"); (case zl2 => exact lkO)))
local macro_rules | `(tactic| walk_at "z") => `(tactic| ((with_reducible refine' z_fldG ?zc1 ?zc2 ?zl0 ?zl1 ?zl2 ?_); (case zc1 => exact Lw.cl_Poly (by assumption)); (case zc2 => exact Lw.na_Poly_degree (by assumption)); (case zl0 => exact rfl); (case zl1 => walk_at "up"); (case zl2 => exact lkD)))
local macro_rules | `(tactic| walk_at "z") => `(tactic| ((with_reducible refine' z_isR ?zl1 ?zl2 ?zl3 ?_); (case zl1 => exact Lw.in_Ratio (by assumption)); (case zl2 => exact Lw.kt_Ratio_Ratio (by assumption)); (case zl3 => walk_at "up")))
theorem same30k {H H1 H2 : Hp} (h : Same H1 H2) (e : Same H H1) : Same H H2 := e.trans h
local macro_rules | `(tactic| walk_at "sm") => `(tactic| first
  | assumption
  | exact fun _ _ h => h
  | (refine' same30k (by assumption) ?zsm; case zsm => walk_at "sm"))
local macro_rules | `(tactic| walk_at "up") => `(tactic| first
  | assumption
  | (with_reducible refine' IsPool.mono (by assumption) ?zup; case zup => walk_at "up")
  | (with_reducible refine' IsR.mono (by assumption) ?zup; case zup => walk_at "up")
  | (with_reducible refine' IsV.mono (by assumption) ?zup; case zup => walk_at "up")
  | (with_reducible refine' IsQ.mono (by assumption) ?zup; case zup => walk_at "up")
  | (with_reducible refine' PQ.mono (by assumption) ?zup; case zup => walk_at "up")
  | (with_reducible refine' RL.mono (by assumption) ?zup; case zup => walk_at "up")
  | (with_reducible refine' PL.mono (by assumption) ?zup; case zup => walk_at "up")
  | (with_reducible refine' RB.mono (by assumption) ?zup; case zup => walk_at "up")
  | (with_reducible refine' PB.mono (by assumption) ?zup; case zup => walk_at "up")
  | (with_reducible refine' Same.at (by assumption) ?zup; case zup => walk_at "up")
  | (with_reducible refine' But.at (by assumption) ?zne ?zup; (case zne => (first | assumption | exact Ne.symm (by assumption))); (case zup => walk_at "up"))
  | (with_reducible refine' IsPool.of ?zup; case zup => walk_at "up")
  | fail)
local macro_rules | `(tactic| walk_at "bt") => `(tactic| first
  | assumption
  | exact fun _ _ _ h => h
  | (refine' But.trans ?zsm (by assumption); case zsm => walk_at "bt")
  | (refine' But.trans ?zsm (But.of (by assumption)); case zsm => walk_at "bt"))

open S31 (cf pb)
open S30
def zRev (K : Frag) (x : V) (H : Hp) (Q : VK) : Prop := ∃ a xs, x = .ref a ∧ SqL K H a xs ∧ ∀ p, H p = none → Q (.ref p) (upd H p (.lst xs.reverse))
theorem z_revL {K : Frag} {te : TE} {σ : L2.St} {H : Hp} {Q : VK} (q : te σ H fun x H1 => zRev K x H1 Q) : tRevL K te σ H Q := q
theorem z_rev {K : Frag} {H : Hp} {Q : VK} {a : Addr} {xs : List V} (h : H a = some (.lst xs)) (k : ∀ p H', H p = none → Same H H' → H' p = some (.lst xs.reverse) → Q (.ref p) H') : zRev K (.ref a) H Q := ⟨a, xs, rfl, SqL.of h, fun p hp => k p _ hp (Same.new hp) upd_same⟩
local macro_rules | `(tactic| walk_at "z") => `(tactic| with_reducible refine z_revL ?_)

def fs_along : F4 := fun a b c d H Q _ => ∃ (p q : Addr) (ns : List Int) (o u v w : Int) (n N : Nat), a = .ref p ∧ b = .int u ∧ c = .int v ∧ d = .int w ∧ H p = some (.tup [.ref q, .int o]) ∧ H q = some (.lst (ns.map V.int)) ∧ ns.length = n ∧ n ≤ 13 ∧ 0 < o ∧ Bits 30 o ∧ (∀ k, Bits N (cf ns k)) ∧ N ≤ 100 ∧ Bits 30 u ∧ Bits 30 v ∧ Bits 30 w ∧ 0 < w ∧
  ∀ t l H' ts, Same H H' → H' t = some (.tup [.ref l, .int (o * w ^ (n - 1))]) → H' l = some (.lst (ts.map V.int)) → ts.length = n → (∀ k, Bits (N + 1000) (cf ts k)) → (∀ x : Rat, S30.E (cr ts (o * w ^ (n - 1))) x n = S30.E (cr ns o) ((u : Rat) / w + (v : Rat) / w * x) n) → Q (.ref t) H'
theorem tl_bits {u v : Int} {f : Nat → Int} {B : Nat} (hu : Bits 30 u) (hv : Bits 30 v) (h : ∀ k, Bits B (f k)) (k : Nat) : Bits (B + 31) (tl u v f k) := by
  unfold tl
  refine Bits.add ((h k).mul hu) ?_
  split
  · exact Bits.zero
  · exact (h _).mul hv
theorem ic_tl {u v : Int} {ts rs : List Int} (h : ∀ k, cf rs k = tl u v (cf ts) k) : ic rs = tlR u v (ic ts) := by
  funext k
  show (cf rs k : Rat) = (cf ts k : Rat) * u + (if k = 0 then 0 else (cf ts (k - 1) : Rat) * v)
  rw [h]
  unfold tl
  rw [Rat.intCast_add, Rat.intCast_mul]
  split
  · rfl
  · rw [Rat.intCast_mul]
section
variable {P : Program} {w : World} {K : Frag} {mg : Str → Option Value} {base : Heap}
theorem ok_law_along (L : Lw K mg) {fd : FuncData} (F : FunD K "_law_along" "_law_along" (defArgs s_law_along) (defBody s_law_along) (defScope s_law_along) (df_law_along.dvs K) (df_law_along.kws K) (He.fAd K ("_law_along", none)) fd) : FnOk P w K mg base (L2N.CX P w) 2 (He.fAd K ("_law_along", none)) fd (["p", "a", "b", "bottom"] : List Str) (sp4 fs_along) := by
  refine FunD.ok F sc_law_along len4 (fun cdv A outer s H vs Q E hr h => ?_)
  obtain ⟨a, b, c, d, rfl, h⟩ := h
  refine ⟨_, (pss_cons (ps_set (i := 4) sc_law_along.nd rfl (by first | exact Or.inl rfl | exact Or.inr rfl) (pe_lst pa_nil))
    (pss_cons (ps_set (i := 5) sc_law_along.nd rfl (by first | exact Or.inl rfl | exact Or.inr rfl) pe_int)
    (pss_cons (ps_for (passes_of rfl) rfl (pi_listK (K := K) rfl (pe_revLK (K := K) rfl (pe_ix (ix_seqK (K := K) rfl) (pv 0) pe_int (fun _ _ => rfl)))) (pg_name (i := 6) sc_law_along.nd rfl (by first | exact Or.inl rfl | exact Or.inr rfl)) (pss_cons (ps_set (i := 4) sc_law_along.nd rfl (by first | exact Or.inl rfl | exact Or.inr rfl) (pe_c (c_law_times_line (K := K) L) hr (by decide) (L2N.takes_of rfl rfl rfl rfl) (pa_cons (pv 4) (pa_cons (pv 1) (pa_cons (pv 2) pa_nil)))))
    (pss_cons (ps_asg (pe_op o_cat (pe_ix (ix_seqK (K := K) rfl) (pv 4) pe_int (fun _ _ => rfl)) (pe_op o_rep (pv 6) (pv 5))) (pg_sub (pv 4) pe_int set_list))
    (pss_one (ps_set (i := 5) sc_law_along.nd rfl (by first | exact Or.inl rfl | exact Or.inr rfl) (pe_op o_rep (pv 5) (pv 3)))))))
    (pss_cons (ps_set (i := 7) sc_law_along.nd rfl (by first | exact Or.inl rfl | exact Or.inr rfl) (pe_ix (ix_seqK (K := K) rfl) (pv 0) pe_int (fun _ _ => rfl)))
    (pss_cons (ps_for (passes_of rfl) rfl (pi_range1 (by rfl) L.f_range (pa_cons (pe_op o_sub (pe_callB (callK rLen1 (K := K) rfl o_len) (by rfl) L.f_len (by decide +kernel) (pa_cons (pe_ix (ix_seqK (K := K) rfl) (pv 0) pe_int (fun _ _ => rfl)) pa_nil)) pe_int) pa_nil)) (pg_name (i := 8) sc_law_along.nd rfl (by first | exact Or.inl rfl | exact Or.inr rfl)) (pss_one (ps_set (i := 7) sc_law_along.nd rfl (by first | exact Or.inl rfl | exact Or.inr rfl) (pe_op o_rep (pv 7) (pv 3)))))
    (pss_one (ps_ret (pe_tup (pa_cons (pe_slice (slK rSlL (K := K) rfl sl_list) (pv 4) po_none (po_some (pe_callB (callK rLen1 (K := K) rfl o_len) (by rfl) L.f_len (by decide +kernel) (pa_cons (pe_ix (ix_seqK (K := K) rfl) (pv 0) pe_int (fun _ _ => rfl)) pa_nil)))) (pa_cons (pv 7) pa_nil)))))))))), ?_⟩
  obtain ⟨p, q, ns, o, u, v, w, n, N, rfl, rfl, rfl, rfl, hp, hq, hl, n13, o0, ob, nb, hN, ub, vb, wb, w0, k⟩ := h
  walk_at "zz"
  rename_i T0 H0 hT0 s0 eT0
  refine z_rev (s0 _ _ hq) (fun R H1 hR s1 eR => ?_)
  have w0' := ne_cast (show w ≠ 0 by omega)
  refine z_foV eR (fun j σ' H' => ∃ (T : Addr) (ts : List Int) (x6 : Option V), σ' = [some (.ref p), some (.int u), some (.int v), some (.int w), some (.ref T), some (.int (w ^ j)), x6, none, none] ∧ Same H H' ∧ Same H1 H' ∧ H' T = some (.lst (ts.map V.int)) ∧ ts.length = j ∧ (∀ k, Bits (N + 70 * j) (cf ts k)) ∧
    ∀ x : Rat, (w : Rat) * S30.E (ic ts) x j = (w : Rat) ^ j * S30.E (fun k => (cf ns (n - j + k) : Rat)) (((u : Rat) + (v : Rat) * x) / w) j) ⟨T0, [], none, ?_, s0.trans s1, fun _ _ h => h, s1 _ _ eT0, rfl, fun k => by rw [S31.cf_nil]; exact Bits.zero, fun x => by show (w : Rat) * 0 = _ * 0; grind⟩ (fun j σ' H' z => by obtain ⟨_, _, _, _, _, s, _⟩ := z; exact s _ _ eR) ?_ ?_
  · rw [Int.pow_zero]
    rfl
  · rintro j x σ' H' hx ⟨T, ts, x6, rfl, sH, sR, hT, lts, bts, ev⟩
    have hj : j < n := by
      by_cases c : j < n
      · exact c
      · rw [List.getElem?_eq_none (by simp; omega)] at hx
        cases hx
    rw [List.getElem?_reverse (by simp; omega), List.length_map] at hx
    obtain ⟨_, rfl⟩ := map_at hx
    rw [hl]
    walk_at "zz"
    refine u_times hT (by omega) (ub.up (by decide)) (vb.up (by decide)) (fun r H2 rs hr s2 er lrs crs => ?_)
    have hr0 : H r = none := Same.none sH hr
    have hr1 : H1 r = none := Same.none sR hr
    walk_at "zz"
    refine z_ixcf (j := 0) er rfl (by omega) ?_
    walk_at "zz"
    refine z_repU (nb _) (Bits.pow wb j) (by omega) ?_
    walk_at "zz"
    refine z_setL (j := 0) er rfl (by rw [List.length_map]; omega) ?_
    rw [set_int]
    have a1 : (upd H2 r (.lst ((rs.set 0 (cf rs 0 + cf ns (n - 1 - j) * w ^ j)).map V.int))) r = some (.lst ((rs.set 0 (cf rs 0 + cf ns (n - 1 - j) * w ^ j)).map V.int)) := upd_same
    have a2 : Same H (upd H2 r (.lst ((rs.set 0 (cf rs 0 + cf ns (n - 1 - j) * w ^ j)).map V.int))) := Same.put (sH.trans s2) hr0
    have a3 : Same H1 (upd H2 r (.lst ((rs.set 0 (cf rs 0 + cf ns (n - 1 - j) * w ^ j)).map V.int))) := Same.put (sR.trans s2) hr1
    generalize (upd H2 r (.lst ((rs.set 0 (cf rs 0 + cf ns (n - 1 - j) * w ^ j)).map V.int))) = H5 at *
    walk_at "zz"
    refine z_repU (Bits.pow wb j) wb (by omega) ?_
    rw [← Int.pow_succ]
    walk_at "zz"
    have tb := tl_bits ub vb bts
    refine ⟨r, rs.set 0 (cf rs 0 + cf ns (n - 1 - j) * w ^ j), _, rfl, a2, a3, a1, by rw [List.length_set]; omega, fun k => ?_, fun x => ?_⟩
    · rw [cf_set (by omega)]
      split
      · rw [crs]
        exact Bits.up (Bits.add (a := N + 70 * j + 32) ((tb 0).up (by omega)) (Bits.up ((nb _).mul (Bits.pow wb j)) (by omega))) (by omega)
      · rw [crs]
        exact Bits.up (tb k) (by omega)
    · have e1 : ic (rs.set 0 (cf rs 0 + cf ns (n - 1 - j) * w ^ j)) = fun k => if k = 0 then ic rs 0 + (cf ns (n - 1 - j) : Rat) * (w : Rat) ^ j else ic rs k := by
        funext k
        show (cf (rs.set 0 _) k : Rat) = _
        rw [cf_set (by omega)]
        split
        · rw [Rat.intCast_add, Rat.intCast_mul, cast_pow]
          rfl
        · rfl
      have e0 : ic ts j = 0 := by
        show (cf ts j : Rat) = 0
        rw [S31.cf_out (by omega)]
        rfl
      rw [e1, E_put0 (f := ic rs), ic_tl crs, E_tl e0, E_front]
      have e2 : (sft fun k => (cf ns (n - (j + 1) + k) : Rat)) = fun k => (cf ns (n - j + k) : Rat) := by
        funext k
        show (cf ns (n - (j + 1) + (k + 1)) : Rat) = _
        rw [show n - (j + 1) + (k + 1) = n - j + k by omega]
      have e3 : n - (j + 1) + 0 = n - 1 - j := by omega
      rw [e2, e3, Rat.pow_succ]
      have := ev x
      generalize S30.E (fun k => (cf ns (n - j + k) : Rat)) (((u : Rat) + (v : Rat) * x) / w) j = Z at *
      generalize S30.E (ic ts) x j = Y at *
      have q1 : ((u : Rat) + (v : Rat) * x) / w * w = (u : Rat) + (v : Rat) * x := by grind
      generalize ((u : Rat) + (v : Rat) * x) / w = y at *
      rw [← q1]
      grind
  rintro σ' H' ⟨T, ts, x6, rfl, sH, sR, hT, lts, bts, ev⟩
  rw [List.length_reverse, List.length_map, hl] at lts bts ev ⊢
  have hp' := sH _ _ hp
  have hq' := sH _ _ hq
  walk_at "zz"
  rw [List.length_map, hl]
  refine z_foR (by omega) (by omega) (fun j σ' H2 => ∃ x8 : Option V, σ' = [some (.ref p), some (.int u), some (.int v), some (.int w), some (.ref T), some (.int (w ^ n)), x6, some (.int (o * w ^ j)), x8] ∧ H2 = H') ⟨_, by rw [Int.pow_zero, Int.mul_one]; rfl, rfl⟩ ?_ ?_
  · rintro j σ' H2 hj ⟨x8, rfl, rfl⟩
    walk_at "zz"
    refine z_repU (ob.mul (Bits.pow wb j)) wb (by omega) ?_
    rw [Int.mul_assoc, ← Int.pow_succ]
    walk_at "zz"
    exact ⟨_, rfl, rfl⟩
  rintro σ' H2 ⟨x8, rfl, rfl⟩
  have en : ((n : Int) - 1).toNat = n - 1 := by omega
  rw [en]
  walk_at "zz"
  refine z_sll hT (fun S H3 hS s3 e3 => ?_)
  rw [List.length_map, cut_hi, hl, List.take_of_length_le (by rw [List.length_map]; omega)] at e3
  walk_at "zz"
  refine k _ _ _ ts (by walk_at "sm") (by assumption) (by walk_at "up") lts (fun k => Bits.up (bts k) (by omega)) (fun x => ?_)
  cases n with
  | zero => rfl
  | succ m =>
    rw [Nat.add_sub_cancel]
    have := ev x
    have wm : (w : Rat) ^ m ≠ 0 := by
      have := S31.pow_pos' (x := (w : Rat)) (by exact_mod_cast w0) m
      grind
    have o0' := ne_cast (show o ≠ 0 by omega)
    have f1 : S30.E (cr ts (o * w ^ m)) x (m + 1) = 1 / ((o : Rat) * (w : Rat) ^ m) * S30.E (ic ts) x (m + 1) := by
      rw [← E_smul]
      refine E_congr' fun k hk => ?_
      show (cf ts k : Rat) / ((o * w ^ m : Int) : Rat) = 1 / ((o : Rat) * (w : Rat) ^ m) * (cf ts k : Rat)
      rw [Rat.intCast_mul, cast_pow]
      grind
    have f2 : S30.E (cr ns o) ((u : Rat) / w + (v : Rat) / w * x) (m + 1) = 1 / (o : Rat) * S30.E (fun k => (cf ns (m + 1 - (m + 1) + k) : Rat)) (((u : Rat) + (v : Rat) * x) / w) (m + 1) := by
      have ey : (u : Rat) / w + (v : Rat) / w * x = ((u : Rat) + (v : Rat) * x) / w := by grind
      rw [ey, ← E_smul]
      refine E_congr' fun k hk => ?_
      rw [show m + 1 - (m + 1) + k = k by omega]
      show (cf ns k : Rat) / (o : Rat) = 1 / (o : Rat) * (cf ns k : Rat)
      grind
    rw [f1, f2]
    rw [Rat.pow_succ] at this
    generalize S30.E (fun k => (cf ns (m + 1 - (m + 1) + k) : Rat)) (((u : Rat) + (v : Rat) * x) / w) (m + 1) = Z at *
    generalize S30.E (ic ts) x (m + 1) = Y at *
    have q : Y = (w : Rat) ^ m * Z := by grind
    rw [q]
    grind
theorem c_law_along (L : Lw K mg) : Cal P w K mg base 2 "_law_along" (sp4 fs_along) [] := by
  obtain ⟨fd, F⟩ := L.d_law_along
  exact ⟨⟨_, fd, ["p", "a", "b", "bottom"], [], ok_law_along L F, L.g_law_along, F.kp, F.bindsN (fun _ _ _ _ _ _ us hl => match us, hl with | [_, _, _, _], _ => rfl), .nil⟩⟩
end
end T

set_option maxHeartbeats 4000000
namespace T
open PySem PySem.Spec PyProof.Rows L2 Z
/-! the readings' steps, as one word: walk_at "z" (one step), "zz" (as far as it goes), "up" (a fact carried here) -/
local macro_rules | `(tactic| walk_at "up") => `(tactic| first
  | assumption
  | (refine' IsR.mono (by assumption) ?zup; case zup => walk_at "up")
  | (refine' IsE.mono (by assumption) ?zup; case zup => walk_at "up")
  | (refine' Same.at (by assumption) ?zup; case zup => walk_at "up")
  | (refine' SqL.of ?zup; case zup => walk_at "up")
  | (refine' L2.Same.seq (by assumption) ?zup; case zup => walk_at "up"))
local macro_rules | `(tactic| walk_at "z") => `(tactic| first
  | ((with_reducible refine' z_var ?zvh ?_); (case zvh => exact rfl))
  | with_reducible refine z_c ?_
  | with_reducible refine z_cons ?_
  | with_reducible refine z_nil ?_
  | with_reducible refine z_op ?_
  | with_reducible refine z_nx ?_
  | with_reducible refine z_seq ?_
  | with_reducible refine z_asg ?_
  | with_reducible refine z_asgG ?_
  | with_reducible refine z_call ?_
  | with_reducible refine z_sq0 ?_
  | with_reducible refine z_sq1 ?_
  | with_reducible refine z_ifS ?_
  | with_reducible refine z_test ?_
  | with_reducible refine z_tb ?_
  | with_reducible refine z_bl ?_
  | with_reducible refine z_blI ?_
  | with_reducible refine z_ret ?_
  | with_reducible refine z_rt ?_
  | with_reducible refine z_T ?_
  | with_reducible refine z_F ?_
  | with_reducible refine z_add ?_
  | with_reducible refine z_sub ?_
  | with_reducible refine z_neg ?_
  | with_reducible refine z_un ?_
  | with_reducible refine z_eqI ?_
  | with_reducible refine z_neI ?_
  | with_reducible refine z_lt ?_
  | with_reducible refine z_le ?_
  | with_reducible refine z_gt ?_
  | with_reducible refine z_ge ?_
  | with_reducible refine z_not ?_
  | with_reducible refine z_and ?_
  | with_reducible refine z_or ?_
  | with_reducible refine z_andV ?_
  | with_reducible refine z_orV ?_
  | with_reducible refine z_notV ?_
  | with_reducible refine z_if ?_
  | with_reducible refine z_cb ?_
  | with_reducible refine z_int1 ?_
  | with_reducible refine z_intb ?_
  | with_reducible refine z_abs ?_
  | with_reducible refine z_gcd ?_
  | with_reducible refine z_isi_ii ?_
  | with_reducible refine z_isi_ib ?_
  | with_reducible refine z_next ?_
  | with_reducible refine z_drop ?_
  | with_reducible refine z_par ?_
  | with_reducible refine z_par2 ?_
  | with_reducible refine z_tupN ?_
  | with_reducible refine z_lstN ?_
  | ((with_reducible refine' z_nt ?zl1 ?_); (case zl1 => exact Nat.le_of_ble_eq_true rfl); intro p H' hp hs he)
  | ((with_reducible refine' z_gtup ?zl1 ?zl2 ?_); (case zl1 => walk_at "up"); (case zl2 => exact rfl))
  | with_reducible refine z_bk ?_
  | with_reducible refine z_ct ?_
  | with_reducible refine z_break ?_
  | with_reducible refine z_cont ?_
  | with_reducible refine z_retN ?_
  | with_reducible refine z_nn ?_
  | with_reducible refine z_mk ?_
  | with_reducible refine z_gn ?_
  | with_reducible refine z_gcons ?_
  | with_reducible refine z_gnil ?_
  | with_reducible refine z_mt ?_
  | with_reducible refine z_mko ?_
  | with_reducible refine z_for2 ?_
  | with_reducible refine z_ownI ?_
  | ((with_reducible refine' z_lenL ?zl1 ?_); (case zl1 => walk_at "up"))
  | ((with_reducible refine' z_ixT ?zl1 ?zl2 ?_); (case zl1 => walk_at "up"); (case zl2 => exact rfl))
  | ((with_reducible refine' z_mulL ?zl1 ?zl2 ?_); (case zl1 => omega); (case zl2 => omega))
  | ((with_reducible refine' z_mulR ?zl1 ?zl2 ?_); (case zl1 => omega); (case zl2 => omega))
  | ((with_reducible refine' z_divS ?zl1 ?zl2 ?_); (case zl1 => omega); (case zl2 => omega))
  | ((with_reducible refine' z_mulW ?zl1 ?zl2 ?zl3 ?zl4 ?_); (case zl1 => omega); (case zl2 => omega); (case zl3 => omega); (case zl4 => omega))
  | ((with_reducible refine' z_divW ?zl1 ?zl2 ?_); (case zl1 => omega); (case zl2 => omega)))
local macro_rules | `(tactic| walk_at "zz") => `(tactic| repeat (walk_at "z"))
local macro_rules | `(tactic| walk_at "z") => `(tactic| with_reducible refine z_lstN ?_)
local macro_rules | `(tactic| walk_at "z") => `(tactic| with_reducible refine z_p6 ?_)
local macro_rules | `(tactic| walk_at "z") => `(tactic| with_reducible refine z_p12 ?_)
local macro_rules | `(tactic| walk_at "z") => `(tactic| with_reducible refine z_p13 ?_)
local macro_rules | `(tactic| walk_at "z") => `(tactic| with_reducible refine z_calln ?_)
local macro_rules | `(tactic| walk_at "z") => `(tactic| with_reducible refine z_xfS ?_)
local macro_rules | `(tactic| walk_at "z") => `(tactic| with_reducible refine z_lcS ?_)
local macro_rules | `(tactic| walk_at "z") => `(tactic| with_reducible refine z_lcRS ?_)
local macro_rules | `(tactic| walk_at "z") => `(tactic| with_reducible refine z_lcZS ?_)
local macro_rules | `(tactic| walk_at "z") => `(tactic| with_reducible refine z_foS ?_)
local macro_rules | `(tactic| walk_at "z") => `(tactic| with_reducible refine z_for1 ?_)
local macro_rules | `(tactic| walk_at "z") => `(tactic| with_reducible refine z_tsl ?_)
local macro_rules | `(tactic| walk_at "z") => `(tactic| with_reducible refine z_np ?_)
local macro_rules | `(tactic| walk_at "z") => `(tactic| with_reducible refine z_pt ?_)
local macro_rules | `(tactic| walk_at "z") => `(tactic| with_reducible refine z_pti ?_)
local macro_rules | `(tactic| walk_at "z") => `(tactic| with_reducible refine z_catI ?_)
local macro_rules | `(tactic| walk_at "z") => `(tactic| with_reducible refine z_isNI ?_)
local macro_rules | `(tactic| walk_at "z") => `(tactic| with_reducible refine z_isNN ?_)
local macro_rules | `(tactic| walk_at "z") => `(tactic| with_reducible refine z_notNI ?_)
local macro_rules | `(tactic| walk_at "z") => `(tactic| with_reducible refine z_notNN ?_)
local macro_rules | `(tactic| walk_at "z") => `(tactic| with_reducible refine z_gsub ?_)
local macro_rules | `(tactic| walk_at "z") => `(tactic| with_reducible refine z_isNb ?_)
local macro_rules | `(tactic| walk_at "z") => `(tactic| with_reducible refine z_notNb ?_)
local macro_rules | `(tactic| walk_at "z") => `(tactic| ((with_reducible refine' z_nlR ?zl1 ?_); (case zl1 => exact Nat.le_of_ble_eq_true rfl); intro p H' hp hs he))
local macro_rules | `(tactic| walk_at "z") => `(tactic| ((with_reducible refine' z_repR ?zl1 ?zl2 ?_); (case zl1 => omega); (case zl2 => omega)))
local macro_rules | `(tactic| walk_at "z") => `(tactic| ((with_reducible refine' z_repL ?zl1 ?zl2 ?_); (case zl1 => omega); (case zl2 => omega)))
local macro_rules | `(tactic| walk_at "z") => `(tactic| ((with_reducible refine' z_lenLst ?zl1 ?_); (case zl1 => walk_at "up")))
local macro_rules | `(tactic| walk_at "z") => `(tactic| ((with_reducible refine' z_cat ?zl1 ?zl2 ?zl3 ?_); (case zl1 => walk_at "up"); (case zl2 => walk_at "up"); (case zl3 => (simp only [List.length_map, List.length_cons, List.length_nil, List.length_append, List.length_replicate]; omega)); intro p H' hp hs he))
local macro_rules | `(tactic| walk_at "z") => `(tactic| with_reducible refine z_sfl ?_)
local macro_rules | `(tactic| walk_at "z") => `(tactic| with_reducible refine z_lcES ?_)
local macro_rules | `(tactic| walk_at "z") => `(tactic| with_reducible refine z_lcMS ?_)
local macro_rules | `(tactic| walk_at "z") => `(tactic| with_reducible refine z_foES ?_)
local macro_rules | `(tactic| walk_at "z") => `(tactic| with_reducible refine z_fo3S ?_)
local macro_rules | `(tactic| walk_at "z") => `(tactic| with_reducible refine z_sta ?_)
local macro_rules | `(tactic| walk_at "z") => `(tactic| with_reducible refine z_sta1 ?_)
local macro_rules | `(tactic| walk_at "z") => `(tactic| with_reducible refine z_lcTS ?_)
local macro_rules | `(tactic| walk_at "z") => `(tactic| with_reducible refine z_foTS ?_)
local macro_rules | `(tactic| walk_at "z") => `(tactic| ((with_reducible refine' z_fldt ?zc1 ?zc2 ?zl1 ?zl2 ?_); (case zc1 => exact Lw.cl_Ratio (by assumption)); (case zc2 => exact Lw.na_Ratio_top (by assumption)); (case zl1 => exact rfl); (case zl2 => walk_at "up")))
local macro_rules | `(tactic| walk_at "z") => `(tactic| ((with_reducible refine' z_fldb ?zc1 ?zc2 ?zl1 ?zl2 ?_); (case zc1 => exact Lw.cl_Ratio (by assumption)); (case zc2 => exact Lw.na_Ratio_bottom (by assumption)); (case zl1 => exact rfl); (case zl2 => walk_at "up")))
local macro_rules | `(tactic| walk_at "z") => `(tactic| ((with_reducible refine' z_fldG ?zc1 ?zc2 ?zl0 ?zl1 ?zl2 ?_); (case zc1 => exact Lw.cl_Poly (by assumption)); (case zc2 => exact Lw.na_Poly_numbers (by assumption)); (case zl0 => exact rfl); (case zl1 => walk_at "up"); (case zl2 => exact lkA)))
local macro_rules | `(tactic| walk_at "z") => `(tactic| ((with_reducible refine' z_fldG ?zc1 ?zc2 ?zl0 ?zl1 ?zl2 ?_); (case zc1 => exact Lw.cl_Poly (by assumption)); (case zc2 => exact Lw.na_Poly_over (by assumption)); (case zl0 => exact rfl); (case zl1 => walk_at "up"); (case zl2 => exact lkO)))
local macro_rules | `(tactic| walk_at "z") => `(tactic| ((with_reducible refine' z_fldG ?zc1 ?zc2 ?zl0 ?zl1 ?zl2 ?_); (case zc1 => exact Lw.cl_Poly (by assumption)); (case zc2 => exact Lw.na_Poly_degree (by assumption)); (case zl0 => exact rfl); (case zl1 => walk_at "up"); (case zl2 => exact lkD)))
local macro_rules | `(tactic| walk_at "z") => `(tactic| ((with_reducible refine' z_isR ?zl1 ?zl2 ?zl3 ?_); (case zl1 => exact Lw.in_Ratio (by assumption)); (case zl2 => exact Lw.kt_Ratio_Ratio (by assumption)); (case zl3 => walk_at "up")))
local macro_rules | `(tactic| walk_at "z") => `(tactic| with_reducible refine z_revL ?_)
theorem same30l {H H1 H2 : Hp} (h : Same H1 H2) (e : Same H H1) : Same H H2 := e.trans h
local macro_rules | `(tactic| walk_at "sm") => `(tactic| first
  | assumption
  | exact fun _ _ h => h
  | (refine' same30l (by assumption) ?zsm; case zsm => walk_at "sm"))
local macro_rules | `(tactic| walk_at "bt") => `(tactic| first
  | assumption
  | exact fun _ _ _ h => h
  | (refine' But.trans ?zsm (by assumption); case zsm => walk_at "bt")
  | (refine' But.trans ?zsm (But.of (by assumption)); case zsm => walk_at "bt"))

open S31 (cf pb pb_succ)
open S30
/-- Pascal's rows -/
def Rows (H : Hp) (l : Addr) (n : Nat) : Prop := ∃ xs, H l = some (.lst xs) ∧ xs.length = n ∧ ∀ k, k < n → ∃ (a : Addr) (rs : List Int), xs[k]? = some (.ref a) ∧ H a = some (.lst (rs.map V.int)) ∧ rs.length = k + 1 ∧ ∀ j, cf rs j = pb k j
theorem Rows.mono {H H' : Hp} {l : Addr} {n : Nat} (s : Same H H') (h : Rows H l n) : Rows H' l n := by
  obtain ⟨xs, h1, h2, h3⟩ := h
  exact ⟨xs, s _ _ h1, h2, fun k hk => by
    obtain ⟨a, rs, e, h, r⟩ := h3 k hk
    exact ⟨a, rs, e, s _ _ h, r⟩⟩
def fs_rows : F1 := fun a H Q _ => ∃ d : Nat, a = .int d ∧ d ≤ 60 ∧ ∀ l H', Same H H' → H l = none → Rows H' l (d + 1) → Q (.ref l) H'
theorem u_rows {H : Hp} {Q : VK} {E : XK} {i : Int} {d : Nat} (e : i = (d : Int)) (h : d ≤ 60) (k : ∀ l H', Same H H' → H l = none → Rows H' l (d + 1) → Q (.ref l) H') : sp1 fs_rows [.int i] H Q E := by
  subst e
  exact ⟨_, rfl, d, rfl, h, k⟩
theorem pb_tl {k : Nat} {rs ss : List Int} (h : ∀ j, cf rs j = pb k j) (e : ∀ j, cf ss j = tl 1 1 (cf rs) j) (j : Nat) : cf ss j = pb (k + 1) j := by
  rw [e, pb_succ]
  unfold tl
  rw [h, h]
  split <;> omega
theorem pb_bits {i k : Nat} (h : i ≤ 60) : Bits 61 (pb i k) := by
  have h1 := pb_le i k
  have h2 := S31.pb_nonneg i k
  have h3 : (2 : Int) ^ i ≤ 2 ^ 60 := by exact_mod_cast Nat.pow_le_pow_right (n := 2) (by decide) h
  unfold Bits
  have : (2 : Nat) ^ 61 = 2305843009213693952 := by decide
  have : (2 : Int) ^ 60 = 1152921504606846976 := by decide
  omega
local macro_rules | `(tactic| walk_at "up") => `(tactic| first
  | assumption
  | (with_reducible refine' IsPool.mono (by assumption) ?zup; case zup => walk_at "up")
  | (with_reducible refine' IsR.mono (by assumption) ?zup; case zup => walk_at "up")
  | (with_reducible refine' IsV.mono (by assumption) ?zup; case zup => walk_at "up")
  | (with_reducible refine' IsQ.mono (by assumption) ?zup; case zup => walk_at "up")
  | (with_reducible refine' PQ.mono (by assumption) ?zup; case zup => walk_at "up")
  | (with_reducible refine' RL.mono (by assumption) ?zup; case zup => walk_at "up")
  | (with_reducible refine' PL.mono (by assumption) ?zup; case zup => walk_at "up")
  | (with_reducible refine' RB.mono (by assumption) ?zup; case zup => walk_at "up")
  | (with_reducible refine' PB.mono (by assumption) ?zup; case zup => walk_at "up")
  | (with_reducible refine' Rows.mono (by assumption) ?zup; case zup => walk_at "up")
  | (with_reducible refine' Same.at (by assumption) ?zup; case zup => walk_at "up")
  | (with_reducible refine' But.at (by assumption) ?zne ?zup; (case zne => (first | assumption | exact Ne.symm (by assumption))); (case zup => walk_at "up"))
  | (with_reducible refine' IsPool.of ?zup; case zup => walk_at "up")
  | fail)
section
variable {P : Program} {w : World} {K : Frag} {mg : Str → Option Value} {base : Heap}
theorem ok_law_rows (L : Lw K mg) {fd : FuncData} (F : FunD K "_law_rows" "_law_rows" (defArgs s_law_rows) (defBody s_law_rows) (defScope s_law_rows) (df_law_rows.dvs K) (df_law_rows.kws K) (He.fAd K ("_law_rows", none)) fd) : FnOk P w K mg base (L2N.CX P w) 2 (He.fAd K ("_law_rows", none)) fd (["d"] : List Str) (sp1 fs_rows) := by
  refine FunD.ok F sc_law_rows len1 (fun cdv A outer s H vs Q E hr h => ?_)
  obtain ⟨a, rfl, h⟩ := h
  refine ⟨_, (pss_cons (ps_set (i := 1) sc_law_rows.nd rfl (by first | exact Or.inl rfl | exact Or.inr rfl) (pe_lst (pa_cons (pe_lst (pa_cons pe_int pa_nil)) pa_nil)))
    (pss_cons (ps_for (passes_of rfl) rfl (pi_range1 (by rfl) L.f_range (pa_cons (pv 0) pa_nil)) (pg_name (i := 2) sc_law_rows.nd rfl (by first | exact Or.inl rfl | exact Or.inr rfl)) (pss_one (ps_expr (pe_bm PySem.F.plainAttrs_list PySem.F.slot_list_append PySem.F.type_list_append mt_append (pv 1) (pa_cons (pe_c (c_law_times_line (K := K) L) hr (by decide) (L2N.takes_of rfl rfl rfl rfl) (pa_cons (pe_ix (ix_seqK (K := K) rfl) (pv 1) (pv 2) (fun _ _ => rfl)) (pa_cons pe_int (pa_cons pe_int pa_nil)))) pa_nil)))))
    (pss_one (ps_ret (pv 1))))), ?_⟩
  obtain ⟨d, rfl, hd, k⟩ := h
  walk_at "zz"
  rename_i a0 H0 ha0 s0 ea0 l H1 hl s1 el
  have nal : a0 ≠ l := ne_of_none ea0 hl
  have hlH : H l = none := Same.none s0 hl
  refine z_foR (by omega) (by omega) (fun i σ' H' => ∃ (xs : List V) (x : Option V), σ' = [some (.int d), some (.ref l), x] ∧ Same H H' ∧ H' l = some (.lst xs) ∧ xs.length = i + 1 ∧ ∀ k, k < i + 1 → ∃ (a : Addr) (rs : List Int), xs[k]? = some (.ref a) ∧ a ≠ l ∧ H' a = some (.lst (rs.map V.int)) ∧ rs.length = k + 1 ∧ ∀ j, cf rs j = pb k j) ⟨_, _, rfl, s0.trans s1, el, rfl, fun k hk => ?_⟩ ?_ ?_
  · have : k = 0 := by omega
    subst this
    refine ⟨a0, [1], rfl, nal, s1 _ _ ea0, rfl, fun j => ?_⟩
    cases j with
    | zero => rfl
    | succ j =>
      rw [S31.cf_out (by simp), S31.pb_out 0 (j + 1) (by omega)]
  · rintro i σ' H' hi ⟨xs, x, rfl, sH, hxs, lxs, its⟩
    obtain ⟨a, rs, ea, na, ha, lrs, crs⟩ := its i (by omega)
    have one : Bits 60 (1 : Int) := Bits.up (Bits.small (n := 1) (by decide) (by decide)) (by decide)
    walk_at "zz"
    refine z_app rfl hxs ?_
    walk_at "zz"
    refine z_ixL (SqL.of hxs) (atI_nat ea) ?_
    walk_at "zz"
    refine u_times ha (by omega) one one (fun r H2 ss hr s2 er lss css => ?_)
    walk_at "zz"
    have hxs2 := s2 _ _ hxs
    have nrl : r ≠ l := (ne_of_none hxs hr).symm
    refine z_ap hxs2 (by omega) ?_
    walk_at "zz"
    refine ⟨_, _, rfl, Same.put (sH.trans s2) hlH, upd_same, by simp [lxs], fun k hk => ?_⟩
    by_cases c : k < i + 1
    · obtain ⟨a', rs', ea', na', ha', r'⟩ := its k c
      exact ⟨a', rs', by rw [List.getElem?_append_left (by omega)]; exact ea', na', by rw [upd_ne na']; exact s2 _ _ ha', r'⟩
    · have : k = i + 1 := by omega
      subst this
      exact ⟨r, ss, by rw [List.getElem?_append_right (by omega), lxs, Nat.sub_self]; rfl, nrl, by rw [upd_ne nrl]; exact er, by omega, pb_tl crs css⟩
  · rintro σ' H' ⟨xs, x, rfl, sH, hxs, lxs, its⟩
    rw [Int.toNat_natCast] at lxs its
    walk_at "zz"
    exact k l H' sH hlH ⟨xs, hxs, lxs, fun k hk => by
      obtain ⟨a, rs, ea, na, ha, r⟩ := its k hk
      exact ⟨a, rs, ea, ha, r⟩⟩
theorem c_law_rows (L : Lw K mg) : Cal P w K mg base 2 "_law_rows" (sp1 fs_rows) [] := by
  obtain ⟨fd, F⟩ := L.d_law_rows
  exact ⟨⟨_, fd, ["d"], [], ok_law_rows L F, L.g_law_rows, F.kp, F.bindsN (fun _ _ _ _ _ _ us hl => match us, hl with | [_], _ => rfl), .nil⟩⟩
end
def fs_corners : F3 := fun a b c H Q _ => ∃ (p q lo hi : Addr) (ns : List Int) (o l0 l1 h0 h1 : Int) (n : Nat), a = .ref p ∧ b = .ref lo ∧ c = .ref hi ∧ H p = some (.tup [.ref q, .int o]) ∧ H q = some (.lst (ns.map V.int)) ∧ H lo = some (.tup [.int l0, .int l1]) ∧ H hi = some (.tup [.int h0, .int h1]) ∧
  ns.length = n ∧ n ≤ 13 ∧ 0 < o ∧ Bits 3 o ∧ (∀ k, Bits 20 (cf ns k)) ∧ Bits 10 l0 ∧ Bits 10 l1 ∧ Bits 10 h0 ∧ Bits 10 h1 ∧ 0 < l1 ∧ 0 < h1 ∧ Bits 5 (l1 * h1) ∧
  ∀ l H' A, Same H H' → (∀ x : Rat, S30.E A x n = S30.E (cr ns o) ((l0 : Rat) / l1 + ((h0 : Rat) / h1 - (l0 : Rat) / l1) * x) n) → PB H' l n (cn (n - 1) A) 2000 240 → Q (.ref l) H'
theorem z_foRe {g : TG} {tb : TS} {D : Ends} {σ : L2.St} {H1 : Hp} {i : Int} {n : Nat} (e : i = (n : Int)) (h : n ≤ 1000) (I : Nat → L2.St → Hp → Prop) (h0 : I 0 σ H1)
    (hs : ∀ (k : Nat) σ H, k < n → I k σ H → g (.int k) σ H fun σ2 H2 => tb { D with nx := I (k + 1), ct := I (k + 1), bk := D.nx } σ2 H2) (hd : ∀ σ H, I n σ H → D.nx σ H) : zFoR g tb D σ [.int i] H1 := by
  subst e
  exact z_foR (by omega) (by omega) I h0 (fun k σ H hk p => hs k σ H (by omega) p) (fun σ H p => hd σ H (by rw [Int.toNat_natCast] at p; exact p))
theorem z_ixR {K : Frag} {H : Hp} {Q : VK} {l : Addr} {n : Nat} {i : Int} {k : Nat} (h : Rows H l n) (e : i = (k : Int)) (hk : k < n) (q : ∀ a rs, H a = some (.lst (rs.map V.int)) → rs.length = k + 1 → (∀ j, cf rs j = pb k j) → Q (.ref a) H) : rIx K (.ref l) (.int i) H Q := by
  subst e
  obtain ⟨xs, h1, h2, h3⟩ := h
  obtain ⟨a, rs, ea, ha, lr, cr⟩ := h3 k hk
  exact z_ixL (SqL.of h1) (atI_nat ea) (q a rs ha lr cr)
/-- all but the list at l stands -/
theorem Rows.but {H : Hp} {l m : Addr} {n : Nat} {o : HO} (h : Rows H l n) (hm : ∀ xs, H m = some (.lst xs) → True) : True := trivial
section
variable {P : Program} {w : World} {K : Frag} {mg : Str → Option Value} {base : Heap}
theorem ok_law_corners (L : Lw K mg) {fd : FuncData} (F : FunD K "_law_corners" "_law_corners" (defArgs s_law_corners) (defBody s_law_corners) (defScope s_law_corners) (df_law_corners.dvs K) (df_law_corners.kws K) (He.fAd K ("_law_corners", none)) fd) : FnOk P w K mg base (L2N.CX P w) 3 (He.fAd K ("_law_corners", none)) fd (["p", "low", "high"] : List Str) (sp3 fs_corners) := by
  refine FunD.ok F sc_law_corners len3 (fun cdv A outer s H vs Q E hr h => ?_)
  obtain ⟨a, b, c, rfl, h⟩ := h
  refine ⟨_, (pss_cons (ps_set (i := 3) sc_law_corners.nd rfl (by first | exact Or.inl rfl | exact Or.inr rfl) (pe_op o_rep (pe_ix (ix_seqK (K := K) rfl) (pv 1) pe_int (fun _ _ => rfl)) (pe_ix (ix_seqK (K := K) rfl) (pv 2) pe_int (fun _ _ => rfl))))
    (pss_cons (ps_set (i := 4) sc_law_corners.nd rfl (by first | exact Or.inl rfl | exact Or.inr rfl) (pe_op o_rep (pe_ix (ix_seqK (K := K) rfl) (pv 1) pe_int (fun _ _ => rfl)) (pe_ix (ix_seqK (K := K) rfl) (pv 2) pe_int (fun _ _ => rfl))))
    (pss_cons (ps_asg (pe_c (c_law_along (K := K) L) hr (by decide) (L2N.takes_of rfl rfl rfl rfl) (pa_cons (pv 0) (pa_cons (pv 4) (pa_cons (pe_op o_sub (pe_op o_rep (pe_ix (ix_seqK (K := K) rfl) (pv 2) pe_int (fun _ _ => rfl)) (pe_ix (ix_seqK (K := K) rfl) (pv 1) pe_int (fun _ _ => rfl))) (pv 4)) (pa_cons (pv 3) pa_nil))))) (pg_tup (by rfl) (pgs_cons (pg_name (i := 5) sc_law_corners.nd rfl (by first | exact Or.inl rfl | exact Or.inr rfl)) (pgs_cons (pg_name (i := 6) sc_law_corners.nd rfl (by first | exact Or.inl rfl | exact Or.inr rfl)) pgs_nil))))
    (pss_cons (ps_set (i := 7) sc_law_corners.nd rfl (by first | exact Or.inl rfl | exact Or.inr rfl) (pe_op o_sub (pe_callB (callK rLen1 (K := K) rfl o_len) (by rfl) L.f_len (by decide +kernel) (pa_cons (pe_ix (ix_seqK (K := K) rfl) (pv 0) pe_int (fun _ _ => rfl)) pa_nil)) pe_int))
    (pss_cons (ps_set (i := 8) sc_law_corners.nd rfl (by first | exact Or.inl rfl | exact Or.inr rfl) (pe_c (c_law_rows (K := K) L) hr (by decide) (L2N.takes_of rfl rfl rfl rfl) (pa_cons (pe_callB (o_max2 rfl) (by rfl) L.f_max (by decide +kernel) (pa_cons (pv 7) (pa_cons pe_int pa_nil))) pa_nil)))
    (pss_cons (ps_set (i := 9) sc_law_corners.nd rfl (by first | exact Or.inl rfl | exact Or.inr rfl) pe_int)
    (pss_cons (ps_for (passes_of rfl) rfl (pi_range1 (by rfl) L.f_range (pa_cons (pe_op o_cat (pv 7) pe_int) pa_nil)) (pg_name (i := 10) sc_law_corners.nd rfl (by first | exact Or.inl rfl | exact Or.inr rfl)) (pss_one (ps_set (i := 9) sc_law_corners.nd rfl (by first | exact Or.inl rfl | exact Or.inr rfl) (pe_op o_rep (pv 9) (pe_ix (ix_seqK (K := K) rfl) (pe_ix (ix_seqK (K := K) rfl) (pv 8) (pv 7) (fun _ _ => rfl)) (pv 10) (fun _ _ => rfl))))))
    (pss_cons (ps_set (i := 11) sc_law_corners.nd rfl (by first | exact Or.inl rfl | exact Or.inr rfl) (pe_lst pa_nil))
    (pss_cons (ps_for (passes_of rfl) rfl (pi_range1 (by rfl) L.f_range (pa_cons (pe_op o_cat (pv 7) pe_int) pa_nil)) (pg_name (i := 12) sc_law_corners.nd rfl (by first | exact Or.inl rfl | exact Or.inr rfl)) (pss_cons (ps_set (i := 13) sc_law_corners.nd rfl (by first | exact Or.inl rfl | exact Or.inr rfl) pe_int)
    (pss_cons (ps_for (passes_of rfl) rfl (pi_range1 (by rfl) L.f_range (pa_cons (pe_op o_cat (pv 12) pe_int) pa_nil)) (pg_name (i := 10) sc_law_corners.nd rfl (by first | exact Or.inl rfl | exact Or.inr rfl)) (pss_cons (ps_set (i := 14) sc_law_corners.nd rfl (by first | exact Or.inl rfl | exact Or.inr rfl) (pe_op o_rep (pe_ix (ix_seqK (K := K) rfl) (pe_ix (ix_seqK (K := K) rfl) (pv 8) (pv 12) (fun _ _ => rfl)) (pv 10) (fun _ _ => rfl)) (pe_op o_div (pv 9) (pe_ix (ix_seqK (K := K) rfl) (pe_ix (ix_seqK (K := K) rfl) (pv 8) (pv 7) (fun _ _ => rfl)) (pv 10) (fun _ _ => rfl)))))
    (pss_one (ps_set (i := 13) sc_law_corners.nd rfl (by first | exact Or.inl rfl | exact Or.inr rfl) (pe_op o_cat (pv 13) (pe_op o_rep (pe_ix (ix_seqK (K := K) rfl) (pv 5) (pv 10) (fun _ _ => rfl)) (pv 14)))))))
    (pss_one (ps_expr (pe_bm PySem.F.plainAttrs_list PySem.F.slot_list_append PySem.F.type_list_append mt_append (pv 11) (pa_cons (pe_tup (pa_cons (pv 13) (pa_cons (pe_op o_rep (pv 6) (pv 9)) pa_nil))) pa_nil)))))))
    (pss_one (ps_ret (pv 11)))))))))))), ?_⟩
  obtain ⟨p, q, lo, hi, ns, o, l0, l1, h0, h1, n, rfl, rfl, rfl, hp, hq, hlo, hhi, hl, n13, o0, ob, nb, bl0, bl1, bh0, bh1, l1p, h1p, b5, k⟩ := h
  walk_at "zz"
  refine z_repU bl1 bh1 (by decide) ?_
  walk_at "zz"
  refine z_repU bl0 bh1 (by decide) ?_
  walk_at "zz"
  refine z_repU bh0 bl1 (by decide) ?_
  walk_at "zz"
  have bt : Bits 20 (l0 * h1) := Bits.up (bl0.mul bh1) (by decide)
  refine ⟨_, _, _, _, rfl, p, q, ns, o, l0 * h1, h0 * l1 - l0 * h1, l1 * h1, n, 20, rfl, rfl, rfl, rfl, hp, hq, hl, n13, o0, ob.up (by decide), nb, by decide, bt.up (by decide), Bits.up (Bits.sub (Bits.up (bh0.mul bl1) (show _ ≤ 20 by decide)) bt) (by decide), b5.up (by decide), Int.mul_pos l1p h1p, fun t mv H1 ts s1 et emv lts bts ev => ?_⟩
  have hp1 := s1 _ _ hp
  have hq1 := s1 _ _ hq
  walk_at "zz"
  rw [List.length_map, hl]
  refine z_max2 ?_
  walk_at "zz"
  refine u_rows (d := n - 1) (by omega) (by omega) (fun rw_ H2 s2 hrw rws => ?_)
  walk_at "zz"
  refine z_foRe (n := n) (by omega) (by omega) (fun i σ' H' => ∃ (sh : Int) (x10 : Option V), σ' = [some (.ref p), some (.ref lo), some (.ref hi), some (.int (l1 * h1)), some (.int (l0 * h1)), some (.ref mv), some (.int (o * (l1 * h1) ^ (n - 1))), some (.int ((n : Int) - 1)), some (.ref rw_), some (.int sh), x10, none, none, none, none] ∧ H2 = H' ∧ 0 < sh ∧ Bits (13 * i + 1) sh ∧ ∀ j, j < i → pb (n - 1) j ∣ sh) ⟨1, none, rfl, rfl, by decide, Bits.small (n := 1) (by decide) (by decide), fun j hj => absurd hj (Nat.not_lt_zero _)⟩ ?_ ?_
  · rintro i σ' H' hin ⟨sh, x10, rfl, rfl, sh0, shb, shd⟩
    obtain ⟨_, w0, w1⟩ := comb_pb (n - 1) (by omega) i (by omega)
    have wb : Bits 13 (pb (n - 1) i) := Bits.small (n := 13) (by show -(8192 : Int) < _; omega) (by show _ < (8192 : Int); omega)
    walk_at "zz"
    refine z_ixR (k := n - 1) rws (by omega) (by omega) (fun a rs ha lr cr => ?_)
    walk_at "zz"
    refine z_ixcf (j := i) ha rfl (by omega) ?_
    rw [cr]
    refine z_repU shb wb (by omega) ?_
    walk_at "zz"
    refine ⟨_, _, rfl, rfl, Int.mul_pos sh0 w0, Bits.up (shb.mul wb) (by omega), fun j hj => ?_⟩
    by_cases e : j = i
    · rw [e]
      exact Int.dvd_mul_left _ _
    · exact Int.dvd_trans (shd j (by omega)) (Int.dvd_mul_right _ _)
  rintro σ' H' ⟨sh, x10, rfl, rfl, sh0, shb, shd⟩
  have ovb : Bits 64 (o * (l1 * h1) ^ (n - 1)) := Bits.up (ob.mul (Bits.pow b5 (n - 1))) (by omega)
  have ov0 : 0 < o * (l1 * h1) ^ (n - 1) := Int.mul_pos o0 (Int.pow_pos (Int.mul_pos l1p h1p))
  generalize eov : o * (l1 * h1) ^ (n - 1) = ov at *
  have shr := ne_cast (show sh ≠ 0 by omega)
  have ovr := ne_cast (show ov ≠ 0 by omega)
  walk_at "zz"
  rename_i F H3 hF s3 eF
  have emv3 := s3 _ _ (s2 _ _ emv)
  refine z_foRe (n := n) (by omega) (by omega) (fun i σ' H' => ∃ (x10 x12 x13 x14 : Option V), σ' = [some (.ref p), some (.ref lo), some (.ref hi), some (.int (l1 * h1)), some (.int (l0 * h1)), some (.ref mv), some (.int ov), some (.int ((n : Int) - 1)), some (.ref rw_), some (.int sh), x10, some (.ref F), x12, x13, x14] ∧ Same H2 H' ∧ Ls H' F i (itPB (cn (n - 1) (cr ts ov)) 2000 240)) ⟨_, _, _, _, rfl, s3, [], eF, rfl, fun k x e => by simp at e⟩ ?_ ?_
  · rintro i σ' H' hin ⟨x10, x12, x13, x14, rfl, sH, hLs⟩
    have emv' := sH _ _ (s2 _ _ emv)
    have rws' := rws.mono sH
    walk_at "zz"
    refine z_foRe (n := i + 1) (by omega) (by omega) (fun j σ' H4 => ∃ (tot : Int) (x10 x14 : Option V), σ' = [some (.ref p), some (.ref lo), some (.ref hi), some (.int (l1 * h1)), some (.int (l0 * h1)), some (.ref mv), some (.int ov), some (.int ((n : Int) - 1)), some (.ref rw_), some (.int sh), x10, some (.ref F), some (.int i), some (.int tot), x14] ∧ H4 = H' ∧ Bits (1600 + j) tot ∧ (tot : Rat) = (sh : Rat) * S30.E (pw i (dv (n - 1) (ic ts))) 1 j) ⟨0, _, _, rfl, rfl, Bits.zero, by show (0 : Rat) = (sh : Rat) * 0; grind⟩ ?_ ?_
    · rintro j σ' H4 hj ⟨tot, x10, x14, rfl, rfl, tb, te⟩
      obtain ⟨_, w0, w1⟩ := comb_pb (n - 1) (by omega) j (by omega)
      walk_at "zz"
      refine z_ixR (k := i) rws' rfl (by omega) (fun a rs ha lr cr => ?_)
      walk_at "zz"
      refine z_ixcf (j := j) ha rfl (by omega) ?_
      walk_at "zz"
      refine z_ixR (k := n - 1) rws' (by omega) (by omega) (fun a2 rs2 ha2 lr2 cr2 => ?_)
      walk_at "zz"
      refine z_ixcf (j := j) ha2 rfl (by omega) ?_
      rw [cr, cr2]
      walk_at "zz"
      have pbb : Bits 61 (pb i j) := pb_bits (by omega)
      refine z_repU pbb shb.div (by omega) ?_
      walk_at "zz"
      refine z_ixcf (j := j) emv' rfl (by omega) ?_
      have pab : Bits 300 (pb i j * (sh / pb (n - 1) j)) := Bits.up (pbb.mul shb.div) (by omega)
      walk_at "zz"
      refine z_repU (bts j) pab (by omega) ?_
      walk_at "zz"
      refine ⟨_, _, _, rfl, rfl, Bits.add (a := 1600 + j) tb (Bits.up ((bts j).mul pab) (by omega)), ?_⟩
      rw [Rat.intCast_add, te, Rat.intCast_mul, Rat.intCast_mul, E_1]
      have e1 : ((sh / pb (n - 1) j : Int) : Rat) * (pb (n - 1) j : Rat) = (sh : Rat) := by rw [← Rat.intCast_mul, Int.ediv_mul_cancel (shd j (by omega))]
      have pr := ne_cast (show pb (n - 1) j ≠ 0 by omega)
      show _ = (sh : Rat) * (S30.E (pw i (dv (n - 1) (ic ts))) 1 j + (pb i j : Rat) * ((cf ts j : Rat) / (pb (n - 1) j : Rat)))
      rw [← e1]
      grind
    · rintro σ' H4 ⟨tot, x10, x14, rfl, rfl, tb, te⟩
      obtain ⟨xs, hxs, lxs, ixs⟩ := id hLs
      walk_at "zz"
      refine z_app rfl hxs ?_
      walk_at "zz"
      refine z_repU ovb shb (by omega) ?_
      walk_at "zz"
      rename_i tp H5 htp s5 etp
      obtain ⟨xs, hxs, lxs, ixs⟩ := hLs.mono itPB_mono s5
      refine z_ap hxs (by omega) ?_
      walk_at "zz"
      refine ⟨_, _, _, _, rfl, Same.put (sH.trans s5) hF, Ls.snoc itPB_mono hxs lxs ixs ⟨tp, tot, ov * sh, rfl, etp, Int.mul_pos ov0 sh0, Bits.up tb (by omega), Bits.up (ovb.mul shb) (by omega), ?_⟩⟩
      rw [te, Rat.intCast_mul]
      show _ = T i (dv (n - 1) (cr ts ov)) * _
      have e2 : T i (dv (n - 1) (ic ts)) = (ov : Rat) * T i (dv (n - 1) (cr ts ov)) := by
        rw [← T_mul]
        refine T_congr fun k hk => ?_
        obtain ⟨_, w0, w1⟩ := comb_pb (n - 1) (by omega) k (by omega)
        have pr := ne_cast (show pb (n - 1) k ≠ 0 by omega)
        show (cf ts k : Rat) / (pb (n - 1) k : Rat) = (ov : Rat) * ((cf ts k : Rat) / (ov : Rat) / (pb (n - 1) k : Rat))
        grind
      rw [← T_sum, e2]
      grind
  · rintro σ' H' ⟨x10, x12, x13, x14, rfl, sH, hLs⟩
    walk_at "zz"
    refine k F H' (cr ts ov) ((s1.trans s2).trans sH) (fun x => ?_) hLs
    rw [ev]
    congr 1
    have q1 := ne_cast (show l1 ≠ 0 by omega)
    have q2 := ne_cast (show h1 ≠ 0 by omega)
    rw [Rat.intCast_sub, Rat.intCast_mul, Rat.intCast_mul, Rat.intCast_mul]
    grind
theorem c_law_corners (L : Lw K mg) : Cal P w K mg base 3 "_law_corners" (sp3 fs_corners) [] := by
  obtain ⟨fd, F⟩ := L.d_law_corners
  exact ⟨⟨_, fd, ["p", "low", "high"], [], ok_law_corners L F, L.g_law_corners, F.kp, F.bindsN (fun _ _ _ _ _ _ us hl => match us, hl with | [_, _, _], _ => rfl), .nil⟩⟩
end
end T

set_option maxHeartbeats 4000000
namespace T
open PySem PySem.Spec PyProof.Rows L2 Z
/-! the readings' steps, as one word: walk_at "z" (one step), "zz" (as far as it goes), "up" (a fact carried here) -/
local macro_rules | `(tactic| walk_at "up") => `(tactic| first
  | assumption
  | (refine' IsR.mono (by assumption) ?zup; case zup => walk_at "up")
  | (refine' IsE.mono (by assumption) ?zup; case zup => walk_at "up")
  | (refine' Same.at (by assumption) ?zup; case zup => walk_at "up")
  | (refine' SqL.of ?zup; case zup => walk_at "up")
  | (refine' L2.Same.seq (by assumption) ?zup; case zup => walk_at "up"))
local macro_rules | `(tactic| walk_at "z") => `(tactic| first
  | ((with_reducible refine' z_var ?zvh ?_); (case zvh => exact rfl))
  | with_reducible refine z_c ?_
  | with_reducible refine z_cons ?_
  | with_reducible refine z_nil ?_
  | with_reducible refine z_op ?_
  | with_reducible refine z_nx ?_
  | with_reducible refine z_seq ?_
  | with_reducible refine z_asg ?_
  | with_reducible refine z_asgG ?_
  | with_reducible refine z_call ?_
  | with_reducible refine z_sq0 ?_
  | with_reducible refine z_sq1 ?_
  | with_reducible refine z_ifS ?_
  | with_reducible refine z_test ?_
  | with_reducible refine z_tb ?_
  | with_reducible refine z_bl ?_
  | with_reducible refine z_blI ?_
  | with_reducible refine z_ret ?_
  | with_reducible refine z_rt ?_
  | with_reducible refine z_T ?_
  | with_reducible refine z_F ?_
  | with_reducible refine z_add ?_
  | with_reducible refine z_sub ?_
  | with_reducible refine z_neg ?_
  | with_reducible refine z_un ?_
  | with_reducible refine z_eqI ?_
  | with_reducible refine z_neI ?_
  | with_reducible refine z_lt ?_
  | with_reducible refine z_le ?_
  | with_reducible refine z_gt ?_
  | with_reducible refine z_ge ?_
  | with_reducible refine z_not ?_
  | with_reducible refine z_and ?_
  | with_reducible refine z_or ?_
  | with_reducible refine z_andV ?_
  | with_reducible refine z_orV ?_
  | with_reducible refine z_notV ?_
  | with_reducible refine z_if ?_
  | with_reducible refine z_cb ?_
  | with_reducible refine z_int1 ?_
  | with_reducible refine z_intb ?_
  | with_reducible refine z_abs ?_
  | with_reducible refine z_gcd ?_
  | with_reducible refine z_isi_ii ?_
  | with_reducible refine z_isi_ib ?_
  | with_reducible refine z_next ?_
  | with_reducible refine z_drop ?_
  | with_reducible refine z_par ?_
  | with_reducible refine z_par2 ?_
  | with_reducible refine z_tupN ?_
  | with_reducible refine z_lstN ?_
  | ((with_reducible refine' z_nt ?zl1 ?_); (case zl1 => exact Nat.le_of_ble_eq_true rfl); intro p H' hp hs he)
  | ((with_reducible refine' z_gtup ?zl1 ?zl2 ?_); (case zl1 => walk_at "up"); (case zl2 => exact rfl))
  | with_reducible refine z_bk ?_
  | with_reducible refine z_ct ?_
  | with_reducible refine z_break ?_
  | with_reducible refine z_cont ?_
  | with_reducible refine z_retN ?_
  | with_reducible refine z_nn ?_
  | with_reducible refine z_mk ?_
  | with_reducible refine z_gn ?_
  | with_reducible refine z_gcons ?_
  | with_reducible refine z_gnil ?_
  | with_reducible refine z_mt ?_
  | with_reducible refine z_mko ?_
  | with_reducible refine z_for2 ?_
  | with_reducible refine z_ownI ?_
  | ((with_reducible refine' z_lenL ?zl1 ?_); (case zl1 => walk_at "up"))
  | ((with_reducible refine' z_ixT ?zl1 ?zl2 ?_); (case zl1 => walk_at "up"); (case zl2 => exact rfl))
  | ((with_reducible refine' z_mulL ?zl1 ?zl2 ?_); (case zl1 => omega); (case zl2 => omega))
  | ((with_reducible refine' z_mulR ?zl1 ?zl2 ?_); (case zl1 => omega); (case zl2 => omega))
  | ((with_reducible refine' z_divS ?zl1 ?zl2 ?_); (case zl1 => omega); (case zl2 => omega))
  | ((with_reducible refine' z_mulW ?zl1 ?zl2 ?zl3 ?zl4 ?_); (case zl1 => omega); (case zl2 => omega); (case zl3 => omega); (case zl4 => omega))
  | ((with_reducible refine' z_divW ?zl1 ?zl2 ?_); (case zl1 => omega); (case zl2 => omega)))
local macro_rules | `(tactic| walk_at "zz") => `(tactic| repeat (walk_at "z"))
local macro_rules | `(tactic| walk_at "z") => `(tactic| with_reducible refine z_lstN ?_)
local macro_rules | `(tactic| walk_at "z") => `(tactic| with_reducible refine z_p6 ?_)
local macro_rules | `(tactic| walk_at "z") => `(tactic| with_reducible refine z_p12 ?_)
local macro_rules | `(tactic| walk_at "z") => `(tactic| with_reducible refine z_p13 ?_)
local macro_rules | `(tactic| walk_at "z") => `(tactic| with_reducible refine z_calln ?_)
local macro_rules | `(tactic| walk_at "z") => `(tactic| with_reducible refine z_xfS ?_)
local macro_rules | `(tactic| walk_at "z") => `(tactic| with_reducible refine z_lcS ?_)
local macro_rules | `(tactic| walk_at "z") => `(tactic| with_reducible refine z_lcRS ?_)
local macro_rules | `(tactic| walk_at "z") => `(tactic| with_reducible refine z_lcZS ?_)
local macro_rules | `(tactic| walk_at "z") => `(tactic| with_reducible refine z_foS ?_)
local macro_rules | `(tactic| walk_at "z") => `(tactic| with_reducible refine z_for1 ?_)
local macro_rules | `(tactic| walk_at "z") => `(tactic| with_reducible refine z_tsl ?_)
local macro_rules | `(tactic| walk_at "z") => `(tactic| with_reducible refine z_np ?_)
local macro_rules | `(tactic| walk_at "z") => `(tactic| with_reducible refine z_pt ?_)
local macro_rules | `(tactic| walk_at "z") => `(tactic| with_reducible refine z_pti ?_)
local macro_rules | `(tactic| walk_at "z") => `(tactic| with_reducible refine z_catI ?_)
local macro_rules | `(tactic| walk_at "z") => `(tactic| with_reducible refine z_isNI ?_)
local macro_rules | `(tactic| walk_at "z") => `(tactic| with_reducible refine z_isNN ?_)
local macro_rules | `(tactic| walk_at "z") => `(tactic| with_reducible refine z_notNI ?_)
local macro_rules | `(tactic| walk_at "z") => `(tactic| with_reducible refine z_notNN ?_)
local macro_rules | `(tactic| walk_at "z") => `(tactic| with_reducible refine z_gsub ?_)
local macro_rules | `(tactic| walk_at "z") => `(tactic| with_reducible refine z_isNb ?_)
local macro_rules | `(tactic| walk_at "z") => `(tactic| with_reducible refine z_notNb ?_)
local macro_rules | `(tactic| walk_at "z") => `(tactic| ((with_reducible refine' z_nlR ?zl1 ?_); (case zl1 => exact Nat.le_of_ble_eq_true rfl); intro p H' hp hs he))
local macro_rules | `(tactic| walk_at "z") => `(tactic| ((with_reducible refine' z_repR ?zl1 ?zl2 ?_); (case zl1 => omega); (case zl2 => omega)))
local macro_rules | `(tactic| walk_at "z") => `(tactic| ((with_reducible refine' z_repL ?zl1 ?zl2 ?_); (case zl1 => omega); (case zl2 => omega)))
local macro_rules | `(tactic| walk_at "z") => `(tactic| ((with_reducible refine' z_lenLst ?zl1 ?_); (case zl1 => walk_at "up")))
local macro_rules | `(tactic| walk_at "z") => `(tactic| ((with_reducible refine' z_cat ?zl1 ?zl2 ?zl3 ?_); (case zl1 => walk_at "up"); (case zl2 => walk_at "up"); (case zl3 => (simp only [List.length_map, List.length_cons, List.length_nil, List.length_append, List.length_replicate]; omega)); intro p H' hp hs he))
local macro_rules | `(tactic| walk_at "z") => `(tactic| with_reducible refine z_sfl ?_)
local macro_rules | `(tactic| walk_at "z") => `(tactic| with_reducible refine z_lcES ?_)
local macro_rules | `(tactic| walk_at "z") => `(tactic| with_reducible refine z_lcMS ?_)
local macro_rules | `(tactic| walk_at "z") => `(tactic| with_reducible refine z_foES ?_)
local macro_rules | `(tactic| walk_at "z") => `(tactic| with_reducible refine z_fo3S ?_)
local macro_rules | `(tactic| walk_at "z") => `(tactic| with_reducible refine z_sta ?_)
local macro_rules | `(tactic| walk_at "z") => `(tactic| with_reducible refine z_sta1 ?_)
local macro_rules | `(tactic| walk_at "z") => `(tactic| with_reducible refine z_lcTS ?_)
local macro_rules | `(tactic| walk_at "z") => `(tactic| with_reducible refine z_foTS ?_)
local macro_rules | `(tactic| walk_at "z") => `(tactic| ((with_reducible refine' z_fldt ?zc1 ?zc2 ?zl1 ?zl2 ?_); (case zc1 => exact Lw.cl_Ratio (by assumption)); (case zc2 => exact Lw.na_Ratio_top (by assumption)); (case zl1 => exact rfl); (case zl2 => walk_at "up")))
local macro_rules | `(tactic| walk_at "z") => `(tactic| ((with_reducible refine' z_fldb ?zc1 ?zc2 ?zl1 ?zl2 ?_); (case zc1 => exact Lw.cl_Ratio (by assumption)); (case zc2 => exact Lw.na_Ratio_bottom (by assumption)); (case zl1 => exact rfl); (case zl2 => walk_at "up")))
local macro_rules | `(tactic| walk_at "z") => `(tactic| ((with_reducible refine' z_fldG ?zc1 ?zc2 ?zl0 ?zl1 ?zl2 ?_); (case zc1 => exact Lw.cl_Poly (by assumption)); (case zc2 => exact Lw.na_Poly_numbers (by assumption)); (case zl0 => exact rfl); (case zl1 => walk_at "up"); (case zl2 => exact lkA)))
local macro_rules | `(tactic| walk_at "z") => `(tactic| ((with_reducible refine' z_fldG ?zc1 ?zc2 ?zl0 ?zl1 ?zl2 ?_); (case zc1 => exact Lw.cl_Poly (by assumption)); (case zc2 => exact Lw.na_Poly_over (by assumption)); (case zl0 => exact rfl); (case zl1 => walk_at "up"); (case zl2 => exact lkO)))
local macro_rules | `(tactic| walk_at "z") => `(tactic| ((with_reducible refine' z_fldG ?zc1 ?zc2 ?zl0 ?zl1 ?zl2 ?_); (case zc1 => exact Lw.cl_Poly (by assumption)); (case zc2 => exact Lw.na_Poly_degree (by assumption)); (case zl0 => exact rfl); (case zl1 => walk_at "up"); (case zl2 => exact lkD)))
local macro_rules | `(tactic| walk_at "z") => `(tactic| ((with_reducible refine' z_isR ?zl1 ?zl2 ?zl3 ?_); (case zl1 => exact Lw.in_Ratio (by assumption)); (case zl2 => exact Lw.kt_Ratio_Ratio (by assumption)); (case zl3 => walk_at "up")))
local macro_rules | `(tactic| walk_at "z") => `(tactic| with_reducible refine z_revL ?_)
theorem same30n {H H1 H2 : Hp} (h : Same H1 H2) (e : Same H H1) : Same H H2 := e.trans h
local macro_rules | `(tactic| walk_at "sm") => `(tactic| first
  | assumption
  | exact fun _ _ h => h
  | (refine' same30n (by assumption) ?zsm; case zsm => walk_at "sm"))
local macro_rules | `(tactic| walk_at "bt") => `(tactic| first
  | assumption
  | exact fun _ _ _ h => h
  | (refine' But.trans ?zsm (by assumption); case zsm => walk_at "bt")
  | (refine' But.trans ?zsm (But.of (by assumption)); case zsm => walk_at "bt"))

open S31 (cf pb pb_succ)
open S30
theorem lt_of_at {xs : List V} {i n : Nat} {x : V} (h : xs[i]? = some x) (l : xs.length = n) : i < n := by
  by_cases q : i < n
  · exact q
  · rw [List.getElem?_eq_none (by omega)] at h
    cases h
def fs_ratios (K : Frag) : F1 := fun a H Q _ => ∃ (p : Addr) (n B C : Nat) (v : Sq), a = .ref p ∧ PB H p n v B C ∧ n ≤ 1000 ∧ C ≤ 8999 ∧ ∀ l H', Same H H' → H l = none → RB K H' l n v B C → Q (.ref l) H'
def fs_bend : F1 := fun a H Q _ => ∃ (p : Addr) (n B C : Nat) (v : Sq), a = .ref p ∧ PB H p n v B C ∧ 1 ≤ n ∧ n ≤ 60 ∧ C ≤ 8000 ∧ B ≤ 20000 ∧ n * C ≤ 60000 ∧
  ∀ t H' m o, Same H H' → H' t = some (.tup [.int m, .int o]) → 0 < o → Bits (B + n * C + 10) m → Bits (n * C + 1) o → Bend n v ((m : Rat) / (o : Rat)) → Q (.ref t) H'
local macro_rules | `(tactic| walk_at "up") => `(tactic| first
  | assumption
  | (with_reducible refine' IsPool.mono (by assumption) ?zup; case zup => walk_at "up")
  | (with_reducible refine' IsR.mono (by assumption) ?zup; case zup => walk_at "up")
  | (with_reducible refine' IsV.mono (by assumption) ?zup; case zup => walk_at "up")
  | (with_reducible refine' IsQ.mono (by assumption) ?zup; case zup => walk_at "up")
  | (with_reducible refine' PQ.mono (by assumption) ?zup; case zup => walk_at "up")
  | (with_reducible refine' RL.mono (by assumption) ?zup; case zup => walk_at "up")
  | (with_reducible refine' PL.mono (by assumption) ?zup; case zup => walk_at "up")
  | (with_reducible refine' RB.mono (by assumption) ?zup; case zup => walk_at "up")
  | (with_reducible refine' PB.mono (by assumption) ?zup; case zup => walk_at "up")
  | (with_reducible refine' Rows.mono (by assumption) ?zup; case zup => walk_at "up")
  | (with_reducible refine' Same.at (by assumption) ?zup; case zup => walk_at "up")
  | (with_reducible refine' But.at (by assumption) ?zne ?zup; (case zne => (first | assumption | exact Ne.symm (by assumption))); (case zup => walk_at "up"))
  | (with_reducible refine' IsPool.of ?zup; case zup => walk_at "up")
  | fail)
section
variable {P : Program} {w : World} {K : Frag} {mg : Str → Option Value} {base : Heap}
theorem ok_law_ratios (L : Lw K mg) {fd : FuncData} (F : FunD K "_law_ratios" "_law_ratios" (defArgs s_law_ratios) (defBody s_law_ratios) (defScope s_law_ratios) (df_law_ratios.dvs K) (df_law_ratios.kws K) (He.fAd K ("_law_ratios", none)) fd) : FnOk P w K mg base (L2N.CX P w) 3 (He.fAd K ("_law_ratios", none)) fd (["numbers"] : List Str) (sp1 (fs_ratios K)) := by
  refine FunD.ok F sc_law_ratios len1 (fun cdv A outer s H vs Q E hr h => ?_)
  obtain ⟨a, rfl, h⟩ := h
  refine ⟨_, (pss_one (ps_ret (pe_lc (own := [("one", 1)]) (g := (gName 1)) (tt := tYes) rfl sc_law_ratios.nd (pi_listK (K := K) rfl (pv 0)) (blkOk_by (N := ["numbers", "one"]) (sc := defScope s_law_ratios) (by decide +kernel)) (fun _ _ _ _ _ => pg_name (i := 1) sc_law_ratios.nd rfl (Or.inl rfl)) (fun _ _ _ _ _ => pts_nil) (fun _ _ _ _ _ => (pe_mk (c_RatioD_initD (K := K) L) hr (by decide) takesF (pa_cons (pe_ix (ix_seqK (K := K) rfl) (pv 1) pe_int (fun _ _ => rfl)) (pa_cons (pe_ix (ix_seqK (K := K) rfl) (pv 1) pe_int (fun _ _ => rfl)) pa_nil))))))), ?_⟩
  obtain ⟨p, n, B, C, v, rfl, hp, hn, hC, k⟩ := h
  obtain ⟨xs, ad, ts, bs, hxs, lxs, its⟩ := hp.pick
  walk_at "zz"
  refine z_lcVP (itRB K v B C) itRB_mono hxs (by omega) (fun j x H4 N hx s4 c4 => ⟨rfl, ?_⟩) (fun D HD hD sD hlD => ?_)
  · obtain ⟨ex, ht, b0, tb, bb, e⟩ := its j (lt_of_at hx lxs)
    rw [ex] at hx
    cases hx
    have ht4 := s4 _ _ ht
    walk_at "zz"
    refine z_mkR (by omega) (bb.up hC) fun q H5 s5 hq => ?_
    exact c4 _ _ s5 ⟨q, _, _, rfl, hq, (rt_spec b0).1, rt_bits b0 tb, rb_bits b0 bb, rt_val b0 e⟩
  · rw [lxs] at hlD
    walk_at "zz"
    exact k D HD sD hD hlD
theorem c_law_ratios (L : Lw K mg) : Cal P w K mg base 3 "_law_ratios" (sp1 (fs_ratios K)) [] := by
  obtain ⟨fd, F⟩ := L.d_law_ratios
  exact ⟨⟨_, fd, ["numbers"], [], ok_law_ratios L F, L.g_law_ratios, F.kp, F.bindsN (fun _ _ _ _ _ _ us hl => match us, hl with | [_], _ => rfl), .nil⟩⟩
theorem ok_law_bend (L : Lw K mg) {fd : FuncData} (F : FunD K "_law_bend" "_law_bend" (defArgs s_law_bend) (defBody s_law_bend) (defScope s_law_bend) (df_law_bend.dvs K) (df_law_bend.kws K) (He.fAd K ("_law_bend", none)) fd) : FnOk P w K mg base (L2N.CX P w) 2 (He.fAd K ("_law_bend", none)) fd (["numbers"] : List Str) (sp1 fs_bend) := by
  refine FunD.ok F sc_law_bend len1 (fun cdv A outer s H vs Q E hr h => ?_)
  obtain ⟨a, rfl, h⟩ := h
  refine ⟨_, (pss_cons (ps_set (i := 1) sc_law_bend.nd rfl (by first | exact Or.inl rfl | exact Or.inr rfl) pe_int)
    (pss_cons (ps_for (passes_of rfl) rfl (pi_listK (K := K) rfl (pv 0)) (pg_name (i := 2) sc_law_bend.nd rfl (by first | exact Or.inl rfl | exact Or.inr rfl)) (pss_one (ps_set (i := 1) sc_law_bend.nd rfl (by first | exact Or.inl rfl | exact Or.inr rfl) (pe_op o_div (pe_op o_rep (pv 1) (pe_ix (ix_seqK (K := K) rfl) (pv 2) pe_int (fun _ _ => rfl))) (pe_c (c_law_gcd (K := K) L) hr (by decide) (L2N.takes_of rfl rfl rfl rfl) (pa_cons (pv 1) (pa_cons (pe_ix (ix_seqK (K := K) rfl) (pv 2) pe_int (fun _ _ => rfl)) pa_nil)))))))
    (pss_cons (ps_setLc (i := 3) (own := [("one", 2)]) (g := (gName 2)) (tt := tYes) rfl sc_law_bend.nd rfl rfl (sw_true rfl rfl rfl (by decide +kernel)) (pi_listK (K := K) rfl (pv 0)) (blkOk_by (N := ["numbers", "over", "one", "tops", "most", "k"]) (sc := defScope s_law_bend) (by decide +kernel)) (fun _ _ _ _ _ => pg_name (i := 2) sc_law_bend.nd rfl (Or.inl rfl)) (fun _ _ _ _ _ => pts_nil) (fun _ _ _ _ _ => (pe_op o_rep (pe_ix (ix_seqK (K := K) rfl) (pv 2) pe_int (fun _ _ => rfl)) (pe_op o_div (pv 1) (pe_ix (ix_seqK (K := K) rfl) (pv 2) pe_int (fun _ _ => rfl))))))
    (pss_cons (ps_set (i := 4) sc_law_bend.nd rfl (by first | exact Or.inl rfl | exact Or.inr rfl) pe_int)
    (pss_cons (ps_for (passes_of rfl) rfl (pi_range1 (by rfl) L.f_range (pa_cons (pe_op o_sub (pe_callB (callK rLen1 (K := K) rfl o_len) (by rfl) L.f_len (by decide +kernel) (pa_cons (pv 3) pa_nil)) pe_int) pa_nil)) (pg_name (i := 5) sc_law_bend.nd rfl (by first | exact Or.inl rfl | exact Or.inr rfl)) (pss_one (ps_set (i := 4) sc_law_bend.nd rfl (by first | exact Or.inl rfl | exact Or.inr rfl) (pe_callB (o_max2 rfl) (by rfl) L.f_max (by decide +kernel) (pa_cons (pv 4) (pa_cons (pe_callB o_abs (by rfl) L.f_abs (by decide +kernel) (pa_cons (pe_op o_cat (pe_op o_sub (pe_ix (ix_seqK (K := K) rfl) (pv 3) (pv 5) (fun _ _ => rfl)) (pe_op o_rep pe_int (pe_ix (ix_seqK (K := K) rfl) (pv 3) (pe_op o_cat (pv 5) pe_int) (fun _ _ => rfl)))) (pe_ix (ix_seqK (K := K) rfl) (pv 3) (pe_op o_cat (pv 5) pe_int) (fun _ _ => rfl))) pa_nil)) pa_nil))))))
    (pss_one (ps_ret (pe_tup (pa_cons (pv 4) (pa_cons (pv 1) pa_nil)))))))))), ?_⟩
  obtain ⟨p, n, B, C, v, rfl, hp, n1, n60, hC, hB, hnC, k⟩ := h
  obtain ⟨xs, ad, ts, bs, hxs, lxs, its⟩ := hp.pick
  walk_at "zz"
  refine z_foV hxs (fun i σ' H' => ∃ (c : Int) (x2 : Option V), σ' = [some (.ref p), some (.int c), x2, none, none, none] ∧ H = H' ∧ 0 < c ∧ Bits (C * i + 1) c ∧ ∀ j, j < i → bs j ∣ c) ⟨1, none, rfl, rfl, by decide, Bits.small (n := 1) (by decide) (by decide), fun j hj => absurd hj (Nat.not_lt_zero _)⟩ (fun i σ' H' z => by obtain ⟨c, x, _, rfl, _⟩ := z; exact hxs) ?_ ?_
  · rintro i x σ' H' hx ⟨c, x2, rfl, rfl, c0, cb, cd⟩
    have hi := lt_of_at hx lxs
    obtain ⟨ex, ht, b0, tb, bb, e⟩ := its i hi
    rw [ex] at hx
    cases hx
    have hCi : C * i ≤ 60000 := by
      have : C * i ≤ C * n := Nat.mul_le_mul_left C (by omega)
      have : C * n = n * C := Nat.mul_comm ..
      omega
    obtain ⟨l0, l1, l2⟩ := next_mul c0 b0
    have gb : Bits (C + 1) ((Int.gcd c (bs i) : Nat) : Int) := (Bits.gcd bb (by omega)).up (Nat.le_succ C)
    have g0 : 0 < ((Int.gcd c (bs i) : Nat) : Int) := by
      have := Int.gcd_pos_of_ne_zero_left (bs i) (show c ≠ 0 by omega)
      omega
    walk_at "zz"
    refine z_repU cb bb (by omega) ?_
    walk_at "zz"
    refine u_gcd ?_
    walk_at "zz"
    refine z_div g0 gb (Nat.succ_pos C) (by omega) ?_
    walk_at "zz"
    refine ⟨_, _, rfl, rfl, l0, Bits.up (cb.mul bb).div (by rw [Nat.mul_succ]; omega), fun j hj => ?_⟩
    by_cases e : j = i
    · rw [e]
      exact l2
    · exact Int.dvd_trans (cd j (by omega)) l1
  rintro σ' H' ⟨c, x2, rfl, rfl, c0, cb, cd⟩
  rw [lxs, Nat.mul_comm] at cb
  rw [lxs] at cd
  walk_at "zz"
  refine z_lcVF (fun j => V.int (ts j * (c / bs j))) hxs (by omega) (fun j x H4 N hx s4 c4 => ⟨rfl, ?_⟩) (fun D HD hD sD hlD => ?_)
  · have hj := lt_of_at hx lxs
    obtain ⟨ex, ht, b0, tb, bb, e⟩ := its j hj
    rw [ex] at hx
    cases hx
    have ht4 := s4 _ _ ht
    walk_at "zz"
    refine z_div b0 (bb.up (Nat.le_succ C)) (Nat.succ_pos C) (by omega) ?_
    refine z_repU tb cb.div (by omega) ?_
    exact c4 _ (fun _ _ h => h)
  rw [lxs] at hlD
  obtain ⟨cs, ecs, lcs, ccs⟩ := range_ints (n := n) fun j => ts j * (c / bs j)
  rw [ecs] at hlD
  have bcs : ∀ k, Bits (B + n * C + 1) (cf cs k) := fun k => by
    by_cases h : k < n
    · rw [ccs k h]
      exact Bits.up ((its k h).2.2.2.1.mul cb.div) (by omega)
    · rw [S31.cf_out (by omega)]
      exact Bits.zero
  have vcs : ∀ k, k < n → (cf cs k : Rat) = v k * (c : Rat) := fun k h => by
    obtain ⟨ex, hr, b0, tb, bb, e⟩ := its k h
    have e1 : c / bs k * bs k = c := Int.ediv_mul_cancel (cd k h)
    have e2 : ((c / bs k : Int) : Rat) * (bs k : Rat) = (c : Rat) := by rw [← Rat.intCast_mul, e1]
    rw [ccs k h, Rat.intCast_mul, e, ← e2, Rat.mul_assoc, Rat.mul_comm (bs k : Rat)]
  walk_at "zz"
  have crt := ne_cast (show c ≠ 0 by omega)
  have cpos : (0 : Rat) < (c : Rat) := by exact_mod_cast c0
  rw [List.length_map, lcs]
  have eab : ∀ j, j + 2 < n → (((cf cs j - 2 * cf cs (j + 1) + cf cs (j + 2)).natAbs : Int) : Rat) = ab (D2 v j) * (c : Rat) := fun j hj => by
    rw [← ab_int, d2_int (vcs j (by omega)) (vcs (j + 1) (by omega)) (vcs (j + 2) hj)]
    exact ab_mul cpos
  refine z_foR (by omega) (by omega) (fun i σ' H2 => ∃ (m : Int) (x5 : Option V), σ' = [some (.ref p), some (.int c), x2, some (.ref D), some (.int m), x5] ∧ HD = H2 ∧ 0 ≤ m ∧ Bits (B + n * C + 10) m ∧ (∀ j, j < i → j + 2 < n → (cf cs j - 2 * cf cs (j + 1) + cf cs (j + 2)).natAbs ≤ m) ∧ (m = 0 ∨ ∃ j, j < i ∧ j + 2 < n ∧ m = ((cf cs j - 2 * cf cs (j + 1) + cf cs (j + 2)).natAbs : Int))) ⟨0, _, rfl, rfl, by decide, Bits.zero, fun j hj => absurd hj (Nat.not_lt_zero _), .inl rfl⟩ ?_ ?_
  · rintro i σ' H2 hi ⟨m, x5, rfl, rfl, m0, mb, mle, mat⟩
    have hi2 : i + 2 < n := by omega
    walk_at "zz"
    refine z_ixcf (j := i) hlD rfl (by omega) ?_
    walk_at "zz"
    refine z_ixcf (j := i + 1) hlD rfl (by omega) ?_
    walk_at "zz"
    refine z_ixcf (j := i + 2) hlD rfl (by omega) ?_
    walk_at "zz"
    refine z_max2 ?_
    have nb : Bits (B + n * C + 10) (((cf cs i - 2 * cf cs (i + 1) + cf cs (i + 2)).natAbs : Nat) : Int) := by
      have two : Bits 2 (2 : Int) := Bits.small (by decide) (by decide)
      have q := Bits.add (Bits.sub ((bcs i).up (show _ ≤ 2 + (B + n * C + 1) by omega)) (two.mul (bcs (i + 1)))) ((bcs (i + 2)).up (by omega))
      exact Bits.up (q.le (by omega)) (by omega)
    walk_at "zz"
    refine ⟨_, _, rfl, rfl, by omega, ?_, fun j hj hj2 => ?_, ?_⟩
    · rw [Int.max_def]
      split
      · exact nb
      · exact mb
    · by_cases e : j = i
      · rw [e]
        omega
      · have := mle j (by omega) hj2
        omega
    · rw [Int.max_def]
      split
      · exact .inr ⟨i, by omega, hi2, rfl⟩
      · rcases mat with z | ⟨j, j1, j2, j3⟩
        · exact .inl z
        · exact .inr ⟨j, by omega, j2, j3⟩
  · rintro σ' H2 ⟨m, x5, rfl, rfl, m0, mb, mle, mat⟩
    walk_at "zz"
    refine k _ _ m c (by walk_at "sm") (by assumption) c0 mb cb ⟨?_, fun j hj => ?_, ?_⟩
    · rw [Rat.div_def]
      exact Rat.mul_nonneg (by exact_mod_cast m0) (Rat.le_of_lt (Rat.inv_pos.mpr cpos))
    · have h1 := mle j (by omega) hj
      have h2 := eab j hj
      have h3 : (((cf cs j - 2 * cf cs (j + 1) + cf cs (j + 2)).natAbs : Int) : Rat) ≤ (m : Rat) := by exact_mod_cast h1
      rw [h2] at h3
      exact le_quot cpos h3
    · rcases mat with z | ⟨j, j1, j2, j3⟩
      · left
        refine quot_eq cpos ?_
        rw [z, show ((0 : Int) : Rat) = 0 from rfl, Rat.zero_mul]
      · right
        refine ⟨j, j2, ?_⟩
        have h2 := eab j j2
        rw [← j3] at h2
        exact quot_eq cpos h2
theorem c_law_bend (L : Lw K mg) : Cal P w K mg base 2 "_law_bend" (sp1 fs_bend) [] := by
  obtain ⟨fd, F⟩ := L.d_law_bend
  exact ⟨⟨_, fd, ["numbers"], [], ok_law_bend L F, L.g_law_bend, F.kp, F.bindsN (fun _ _ _ _ _ _ us hl => match us, hl with | [_], _ => rfl), .nil⟩⟩
end
end T

set_option maxHeartbeats 4000000
namespace T
open PySem PySem.Spec PyProof.Rows L2 Z
/-! the readings' steps, as one word: walk_at "z" (one step), "zz" (as far as it goes), "up" (a fact carried here) -/
local macro_rules | `(tactic| walk_at "up") => `(tactic| first
  | assumption
  | (refine' IsR.mono (by assumption) ?zup; case zup => walk_at "up")
  | (refine' IsE.mono (by assumption) ?zup; case zup => walk_at "up")
  | (refine' Same.at (by assumption) ?zup; case zup => walk_at "up")
  | (refine' SqL.of ?zup; case zup => walk_at "up")
  | (refine' L2.Same.seq (by assumption) ?zup; case zup => walk_at "up"))
local macro_rules | `(tactic| walk_at "z") => `(tactic| first
  | ((with_reducible refine' z_var ?zvh ?_); (case zvh => exact rfl))
  | with_reducible refine z_c ?_
  | with_reducible refine z_cons ?_
  | with_reducible refine z_nil ?_
  | with_reducible refine z_op ?_
  | with_reducible refine z_nx ?_
  | with_reducible refine z_seq ?_
  | with_reducible refine z_asg ?_
  | with_reducible refine z_asgG ?_
  | with_reducible refine z_call ?_
  | with_reducible refine z_sq0 ?_
  | with_reducible refine z_sq1 ?_
  | with_reducible refine z_ifS ?_
  | with_reducible refine z_test ?_
  | with_reducible refine z_tb ?_
  | with_reducible refine z_bl ?_
  | with_reducible refine z_blI ?_
  | with_reducible refine z_ret ?_
  | with_reducible refine z_rt ?_
  | with_reducible refine z_T ?_
  | with_reducible refine z_F ?_
  | with_reducible refine z_add ?_
  | with_reducible refine z_sub ?_
  | with_reducible refine z_neg ?_
  | with_reducible refine z_un ?_
  | with_reducible refine z_eqI ?_
  | with_reducible refine z_neI ?_
  | with_reducible refine z_lt ?_
  | with_reducible refine z_le ?_
  | with_reducible refine z_gt ?_
  | with_reducible refine z_ge ?_
  | with_reducible refine z_not ?_
  | with_reducible refine z_and ?_
  | with_reducible refine z_or ?_
  | with_reducible refine z_andV ?_
  | with_reducible refine z_orV ?_
  | with_reducible refine z_notV ?_
  | with_reducible refine z_if ?_
  | with_reducible refine z_cb ?_
  | with_reducible refine z_int1 ?_
  | with_reducible refine z_intb ?_
  | with_reducible refine z_abs ?_
  | with_reducible refine z_gcd ?_
  | with_reducible refine z_isi_ii ?_
  | with_reducible refine z_isi_ib ?_
  | with_reducible refine z_next ?_
  | with_reducible refine z_drop ?_
  | with_reducible refine z_par ?_
  | with_reducible refine z_par2 ?_
  | with_reducible refine z_tupN ?_
  | with_reducible refine z_lstN ?_
  | ((with_reducible refine' z_nt ?zl1 ?_); (case zl1 => exact Nat.le_of_ble_eq_true rfl); intro p H' hp hs he)
  | ((with_reducible refine' z_gtup ?zl1 ?zl2 ?_); (case zl1 => walk_at "up"); (case zl2 => exact rfl))
  | with_reducible refine z_bk ?_
  | with_reducible refine z_ct ?_
  | with_reducible refine z_break ?_
  | with_reducible refine z_cont ?_
  | with_reducible refine z_retN ?_
  | with_reducible refine z_nn ?_
  | with_reducible refine z_mk ?_
  | with_reducible refine z_gn ?_
  | with_reducible refine z_gcons ?_
  | with_reducible refine z_gnil ?_
  | with_reducible refine z_mt ?_
  | with_reducible refine z_mko ?_
  | with_reducible refine z_for2 ?_
  | with_reducible refine z_ownI ?_
  | ((with_reducible refine' z_lenL ?zl1 ?_); (case zl1 => walk_at "up"))
  | ((with_reducible refine' z_ixT ?zl1 ?zl2 ?_); (case zl1 => walk_at "up"); (case zl2 => exact rfl))
  | ((with_reducible refine' z_mulL ?zl1 ?zl2 ?_); (case zl1 => omega); (case zl2 => omega))
  | ((with_reducible refine' z_mulR ?zl1 ?zl2 ?_); (case zl1 => omega); (case zl2 => omega))
  | ((with_reducible refine' z_divS ?zl1 ?zl2 ?_); (case zl1 => omega); (case zl2 => omega))
  | ((with_reducible refine' z_mulW ?zl1 ?zl2 ?zl3 ?zl4 ?_); (case zl1 => omega); (case zl2 => omega); (case zl3 => omega); (case zl4 => omega))
  | ((with_reducible refine' z_divW ?zl1 ?zl2 ?_); (case zl1 => omega); (case zl2 => omega)))
local macro_rules | `(tactic| walk_at "zz") => `(tactic| repeat (walk_at "z"))
local macro_rules | `(tactic| walk_at "z") => `(tactic| with_reducible refine z_lstN ?_)
local macro_rules | `(tactic| walk_at "z") => `(tactic| with_reducible refine z_p6 ?_)
local macro_rules | `(tactic| walk_at "z") => `(tactic| with_reducible refine z_p12 ?_)
local macro_rules | `(tactic| walk_at "z") => `(tactic| with_reducible refine z_p13 ?_)
local macro_rules | `(tactic| walk_at "z") => `(tactic| with_reducible refine z_calln ?_)
local macro_rules | `(tactic| walk_at "z") => `(tactic| with_reducible refine z_xfS ?_)
local macro_rules | `(tactic| walk_at "z") => `(tactic| with_reducible refine z_lcS ?_)
local macro_rules | `(tactic| walk_at "z") => `(tactic| with_reducible refine z_lcRS ?_)
local macro_rules | `(tactic| walk_at "z") => `(tactic| with_reducible refine z_lcZS ?_)
local macro_rules | `(tactic| walk_at "z") => `(tactic| with_reducible refine z_foS ?_)
local macro_rules | `(tactic| walk_at "z") => `(tactic| with_reducible refine z_for1 ?_)
local macro_rules | `(tactic| walk_at "z") => `(tactic| with_reducible refine z_tsl ?_)
local macro_rules | `(tactic| walk_at "z") => `(tactic| with_reducible refine z_np ?_)
local macro_rules | `(tactic| walk_at "z") => `(tactic| with_reducible refine z_pt ?_)
local macro_rules | `(tactic| walk_at "z") => `(tactic| with_reducible refine z_pti ?_)
local macro_rules | `(tactic| walk_at "z") => `(tactic| with_reducible refine z_catI ?_)
local macro_rules | `(tactic| walk_at "z") => `(tactic| with_reducible refine z_isNI ?_)
local macro_rules | `(tactic| walk_at "z") => `(tactic| with_reducible refine z_isNN ?_)
local macro_rules | `(tactic| walk_at "z") => `(tactic| with_reducible refine z_notNI ?_)
local macro_rules | `(tactic| walk_at "z") => `(tactic| with_reducible refine z_notNN ?_)
local macro_rules | `(tactic| walk_at "z") => `(tactic| with_reducible refine z_gsub ?_)
local macro_rules | `(tactic| walk_at "z") => `(tactic| with_reducible refine z_isNb ?_)
local macro_rules | `(tactic| walk_at "z") => `(tactic| with_reducible refine z_notNb ?_)
local macro_rules | `(tactic| walk_at "z") => `(tactic| ((with_reducible refine' z_nlR ?zl1 ?_); (case zl1 => exact Nat.le_of_ble_eq_true rfl); intro p H' hp hs he))
local macro_rules | `(tactic| walk_at "z") => `(tactic| ((with_reducible refine' z_repR ?zl1 ?zl2 ?_); (case zl1 => omega); (case zl2 => omega)))
local macro_rules | `(tactic| walk_at "z") => `(tactic| ((with_reducible refine' z_repL ?zl1 ?zl2 ?_); (case zl1 => omega); (case zl2 => omega)))
local macro_rules | `(tactic| walk_at "z") => `(tactic| ((with_reducible refine' z_lenLst ?zl1 ?_); (case zl1 => walk_at "up")))
local macro_rules | `(tactic| walk_at "z") => `(tactic| ((with_reducible refine' z_cat ?zl1 ?zl2 ?zl3 ?_); (case zl1 => walk_at "up"); (case zl2 => walk_at "up"); (case zl3 => (simp only [List.length_map, List.length_cons, List.length_nil, List.length_append, List.length_replicate]; omega)); intro p H' hp hs he))
local macro_rules | `(tactic| walk_at "z") => `(tactic| with_reducible refine z_sfl ?_)
local macro_rules | `(tactic| walk_at "z") => `(tactic| with_reducible refine z_lcES ?_)
local macro_rules | `(tactic| walk_at "z") => `(tactic| with_reducible refine z_lcMS ?_)
local macro_rules | `(tactic| walk_at "z") => `(tactic| with_reducible refine z_foES ?_)
local macro_rules | `(tactic| walk_at "z") => `(tactic| with_reducible refine z_fo3S ?_)
local macro_rules | `(tactic| walk_at "z") => `(tactic| with_reducible refine z_sta ?_)
local macro_rules | `(tactic| walk_at "z") => `(tactic| with_reducible refine z_sta1 ?_)
local macro_rules | `(tactic| walk_at "z") => `(tactic| with_reducible refine z_lcTS ?_)
local macro_rules | `(tactic| walk_at "z") => `(tactic| with_reducible refine z_foTS ?_)
local macro_rules | `(tactic| walk_at "z") => `(tactic| ((with_reducible refine' z_fldt ?zc1 ?zc2 ?zl1 ?zl2 ?_); (case zc1 => exact Lw.cl_Ratio (by assumption)); (case zc2 => exact Lw.na_Ratio_top (by assumption)); (case zl1 => exact rfl); (case zl2 => walk_at "up")))
local macro_rules | `(tactic| walk_at "z") => `(tactic| ((with_reducible refine' z_fldb ?zc1 ?zc2 ?zl1 ?zl2 ?_); (case zc1 => exact Lw.cl_Ratio (by assumption)); (case zc2 => exact Lw.na_Ratio_bottom (by assumption)); (case zl1 => exact rfl); (case zl2 => walk_at "up")))
local macro_rules | `(tactic| walk_at "z") => `(tactic| ((with_reducible refine' z_fldG ?zc1 ?zc2 ?zl0 ?zl1 ?zl2 ?_); (case zc1 => exact Lw.cl_Poly (by assumption)); (case zc2 => exact Lw.na_Poly_numbers (by assumption)); (case zl0 => exact rfl); (case zl1 => walk_at "up"); (case zl2 => exact lkA)))
local macro_rules | `(tactic| walk_at "z") => `(tactic| ((with_reducible refine' z_fldG ?zc1 ?zc2 ?zl0 ?zl1 ?zl2 ?_); (case zc1 => exact Lw.cl_Poly (by assumption)); (case zc2 => exact Lw.na_Poly_over (by assumption)); (case zl0 => exact rfl); (case zl1 => walk_at "up"); (case zl2 => exact lkO)))
local macro_rules | `(tactic| walk_at "z") => `(tactic| ((with_reducible refine' z_fldG ?zc1 ?zc2 ?zl0 ?zl1 ?zl2 ?_); (case zc1 => exact Lw.cl_Poly (by assumption)); (case zc2 => exact Lw.na_Poly_degree (by assumption)); (case zl0 => exact rfl); (case zl1 => walk_at "up"); (case zl2 => exact lkD)))
local macro_rules | `(tactic| walk_at "z") => `(tactic| ((with_reducible refine' z_isR ?zl1 ?zl2 ?zl3 ?_); (case zl1 => exact Lw.in_Ratio (by assumption)); (case zl2 => exact Lw.kt_Ratio_Ratio (by assumption)); (case zl3 => walk_at "up")))
local macro_rules | `(tactic| walk_at "z") => `(tactic| with_reducible refine z_revL ?_)
theorem same30o {H H1 H2 : Hp} (h : Same H1 H2) (e : Same H H1) : Same H H2 := e.trans h
local macro_rules | `(tactic| walk_at "sm") => `(tactic| first
  | assumption
  | exact fun _ _ h => h
  | (refine' same30o (by assumption) ?zsm; case zsm => walk_at "sm"))
local macro_rules | `(tactic| walk_at "bt") => `(tactic| first
  | assumption
  | exact fun _ _ _ h => h
  | (refine' But.trans ?zsm (by assumption); case zsm => walk_at "bt")
  | (refine' But.trans ?zsm (But.of (by assumption)); case zsm => walk_at "bt"))

open S31 (cf pb pb_succ)
open S30
theorem sum_lo {cs : Nat → Int} {v : Sq} {c : Int} {n i : Nat} (hc : ∀ k, k < n → (cs k : Rat) = v k * (c : Rat)) (hi : i < n) : T i (fun k => (cs k : Rat)) = S30.U i v * ((c * 2 ^ i : Int) : Rat) := by
  have e : T i (fun k => (cs k : Rat)) = (c : Rat) * T i v := by
    rw [← T_mul]
    exact T_congr fun k hk => by rw [hc k (by omega), Rat.mul_comm]
  rw [e, U_T, Rat.intCast_mul, cast_pow, show ((2 : Int) : Rat) = 2 from rfl]
  have := pow2_ne i
  grind
theorem sum_hi {cs : Nat → Int} {v : Sq} {c : Int} {n i : Nat} (hc : ∀ k, k < n → (cs k : Rat) = v k * (c : Rat)) (hi : i < n) : T i (fun k => (cs (n - 1 - i + k) : Rat)) = S30.U i (rv (n - 1) v) * ((c * 2 ^ i : Int) : Rat) := by
  have e : T i (fun k => (cs (n - 1 - i + k) : Rat)) = (c : Rat) * T i (fun k => v (n - 1 - i + k)) := by
    rw [← T_mul]
    exact T_congr fun k hk => by rw [hc _ (by omega), Rat.mul_comm]
  rw [e, U_rv (show i ≤ n - 1 by omega), Rat.intCast_mul, cast_pow, show ((2 : Int) : Rat) = 2 from rfl]
  have := pow2_ne i
  grind
def fs_halves : F1 := fun a H Q _ => ∃ (p : Addr) (n B C : Nat) (v : Sq), a = .ref p ∧ PB H p n v B C ∧ 1 ≤ n ∧ n ≤ 60 ∧ C ≤ 5000 ∧ B ≤ 10000 ∧ n * C ≤ 5900 ∧
  ∀ t l u H', Same H H' → H' t = some (.tup [.ref l, .ref u]) → PB H' l n (fun k => S30.U k v) (B + n * C + 140) (n * C + 61) → PB H' u n (upH n v) (B + n * C + 140) (n * C + 61) → Q (.ref t) H'
local macro_rules | `(tactic| walk_at "up") => `(tactic| first
  | assumption
  | (with_reducible refine' IsPool.mono (by assumption) ?zup; case zup => walk_at "up")
  | (with_reducible refine' IsR.mono (by assumption) ?zup; case zup => walk_at "up")
  | (with_reducible refine' IsV.mono (by assumption) ?zup; case zup => walk_at "up")
  | (with_reducible refine' IsQ.mono (by assumption) ?zup; case zup => walk_at "up")
  | (with_reducible refine' PQ.mono (by assumption) ?zup; case zup => walk_at "up")
  | (with_reducible refine' RL.mono (by assumption) ?zup; case zup => walk_at "up")
  | (with_reducible refine' PL.mono (by assumption) ?zup; case zup => walk_at "up")
  | (with_reducible refine' RB.mono (by assumption) ?zup; case zup => walk_at "up")
  | (with_reducible refine' PB.mono (by assumption) ?zup; case zup => walk_at "up")
  | (with_reducible refine' Rows.mono (by assumption) ?zup; case zup => walk_at "up")
  | (with_reducible refine' Same.at (by assumption) ?zup; case zup => walk_at "up")
  | (with_reducible refine' But.at (by assumption) ?zne ?zup; (case zne => (first | assumption | exact Ne.symm (by assumption))); (case zup => walk_at "up"))
  | (with_reducible refine' IsPool.of ?zup; case zup => walk_at "up")
  | fail)
section
variable {P : Program} {w : World} {K : Frag} {mg : Str → Option Value} {base : Heap}
theorem ok_law_halves (L : Lw K mg) {fd : FuncData} (F : FunD K "_law_halves" "_law_halves" (defArgs s_law_halves) (defBody s_law_halves) (defScope s_law_halves) (df_law_halves.dvs K) (df_law_halves.kws K) (He.fAd K ("_law_halves", none)) fd) : FnOk P w K mg base (L2N.CX P w) 3 (He.fAd K ("_law_halves", none)) fd (["numbers"] : List Str) (sp1 fs_halves) := by
  refine FunD.ok F sc_law_halves len1 (fun cdv A outer s H vs Q E hr h => ?_)
  obtain ⟨a, rfl, h⟩ := h
  refine ⟨_, (pss_cons (ps_set (i := 1) sc_law_halves.nd rfl (by first | exact Or.inl rfl | exact Or.inr rfl) (pe_op o_sub (pe_callB (callK rLen1 (K := K) rfl o_len) (by rfl) L.f_len (by decide +kernel) (pa_cons (pv 0) pa_nil)) pe_int))
    (pss_cons (ps_set (i := 2) sc_law_halves.nd rfl (by first | exact Or.inl rfl | exact Or.inr rfl) (pe_c (c_law_rows (K := K) L) hr (by decide) (L2N.takes_of rfl rfl rfl rfl) (pa_cons (pv 1) pa_nil)))
    (pss_cons (ps_set (i := 3) sc_law_halves.nd rfl (by first | exact Or.inl rfl | exact Or.inr rfl) pe_int)
    (pss_cons (ps_for (passes_of rfl) rfl (pi_listK (K := K) rfl (pv 0)) (pg_name (i := 4) sc_law_halves.nd rfl (by first | exact Or.inl rfl | exact Or.inr rfl)) (pss_one (ps_set (i := 3) sc_law_halves.nd rfl (by first | exact Or.inl rfl | exact Or.inr rfl) (pe_op o_div (pe_op o_rep (pv 3) (pe_ix (ix_seqK (K := K) rfl) (pv 4) pe_int (fun _ _ => rfl))) (pe_c (c_law_gcd (K := K) L) hr (by decide) (L2N.takes_of rfl rfl rfl rfl) (pa_cons (pv 3) (pa_cons (pe_ix (ix_seqK (K := K) rfl) (pv 4) pe_int (fun _ _ => rfl)) pa_nil)))))))
    (pss_cons (ps_setLc (i := 5) (own := [("one", 4)]) (g := (gName 4)) (tt := tYes) rfl sc_law_halves.nd rfl rfl (sw_true rfl rfl rfl (by decide +kernel)) (pi_listK (K := K) rfl (pv 0)) (blkOk_by (N := ["numbers", "d", "rows", "over", "one", "tops", "lower", "upper", "i", "up", "down", "k"]) (sc := defScope s_law_halves) (by decide +kernel)) (fun _ _ _ _ _ => pg_name (i := 4) sc_law_halves.nd rfl (Or.inl rfl)) (fun _ _ _ _ _ => pts_nil) (fun _ _ _ _ _ => (pe_op o_rep (pe_ix (ix_seqK (K := K) rfl) (pv 4) pe_int (fun _ _ => rfl)) (pe_op o_div (pv 3) (pe_ix (ix_seqK (K := K) rfl) (pv 4) pe_int (fun _ _ => rfl))))))
    (pss_cons (ps_set (i := 6) sc_law_halves.nd rfl (by first | exact Or.inl rfl | exact Or.inr rfl) (pe_lst pa_nil))
    (pss_cons (ps_set (i := 7) sc_law_halves.nd rfl (by first | exact Or.inl rfl | exact Or.inr rfl) (pe_lst pa_nil))
    (pss_cons (ps_for (passes_of rfl) rfl (pi_range1 (by rfl) L.f_range (pa_cons (pe_op o_cat (pv 1) pe_int) pa_nil)) (pg_name (i := 8) sc_law_halves.nd rfl (by first | exact Or.inl rfl | exact Or.inr rfl)) (pss_cons (ps_set (i := 9) sc_law_halves.nd rfl (by first | exact Or.inl rfl | exact Or.inr rfl) pe_int)
    (pss_cons (ps_set (i := 10) sc_law_halves.nd rfl (by first | exact Or.inl rfl | exact Or.inr rfl) pe_int)
    (pss_cons (ps_for (passes_of rfl) rfl (pi_range1 (by rfl) L.f_range (pa_cons (pe_op o_cat (pv 8) pe_int) pa_nil)) (pg_name (i := 11) sc_law_halves.nd rfl (by first | exact Or.inl rfl | exact Or.inr rfl)) (pss_cons (ps_set (i := 9) sc_law_halves.nd rfl (by first | exact Or.inl rfl | exact Or.inr rfl) (pe_op o_cat (pv 9) (pe_op o_rep (pe_ix (ix_seqK (K := K) rfl) (pe_ix (ix_seqK (K := K) rfl) (pv 2) (pv 8) (fun _ _ => rfl)) (pv 11) (fun _ _ => rfl)) (pe_ix (ix_seqK (K := K) rfl) (pv 5) (pv 11) (fun _ _ => rfl)))))
    (pss_one (ps_set (i := 10) sc_law_halves.nd rfl (by first | exact Or.inl rfl | exact Or.inr rfl) (pe_op o_cat (pv 10) (pe_op o_rep (pe_ix (ix_seqK (K := K) rfl) (pe_ix (ix_seqK (K := K) rfl) (pv 2) (pv 8) (fun _ _ => rfl)) (pv 11) (fun _ _ => rfl)) (pe_ix (ix_seqK (K := K) rfl) (pv 5) (pe_op o_cat (pe_op o_sub (pv 1) (pv 8)) (pv 11)) (fun _ _ => rfl))))))))
    (pss_cons (ps_expr (pe_bm PySem.F.plainAttrs_list PySem.F.slot_list_append PySem.F.type_list_append mt_append (pv 6) (pa_cons (pe_tup (pa_cons (pv 9) (pa_cons (pv 3) pa_nil))) pa_nil)))
    (pss_cons (ps_set (i := 7) sc_law_halves.nd rfl (by first | exact Or.inl rfl | exact Or.inr rfl) (pe_op o_cat (pe_lst (pa_cons (pe_tup (pa_cons (pv 10) (pa_cons (pv 3) pa_nil))) pa_nil)) (pv 7)))
    (pss_one (ps_set (i := 3) sc_law_halves.nd rfl (by first | exact Or.inl rfl | exact Or.inr rfl) (pe_op o_rep pe_int (pv 3))))))))))
    (pss_one (ps_ret (pe_tup (pa_cons (pv 6) (pa_cons (pv 7) pa_nil))))))))))))), ?_⟩
  obtain ⟨p, n, B, C, v, rfl, hp, n1, n60, hC, hB, hnC, k⟩ := h
  obtain ⟨xs, ad, ts, bs, hxs, lxs, its⟩ := hp.pick
  walk_at "zz"
  rw [lxs]
  refine u_rows (d := n - 1) (by omega) (by omega) (fun rw_ H1 s1 hrw rws => ?_)
  replace hxs := s1 _ _ hxs
  walk_at "zz"
  refine z_foV hxs (fun i σ' H' => ∃ (c : Int) (x2 : Option V), σ' = [some (.ref p), some (.int ((n : Int) - 1)), some (.ref rw_), some (.int c), x2, none, none, none, none, none, none, none] ∧ H1 = H' ∧ 0 < c ∧ Bits (C * i + 1) c ∧ ∀ j, j < i → bs j ∣ c) ⟨1, none, rfl, rfl, by decide, Bits.small (n := 1) (by decide) (by decide), fun j hj => absurd hj (Nat.not_lt_zero _)⟩ (fun i σ' H' z => by obtain ⟨c, x, _, rfl, _⟩ := z; exact hxs) ?_ ?_
  · rintro i x σ' H' hx ⟨c, x2, rfl, rfl, c0, cb, cd⟩
    have hi := lt_of_at hx lxs
    obtain ⟨ex, ht, b0, tb, bb, e⟩ := its i hi
    rw [ex] at hx
    cases hx
    have hCi : C * i ≤ 60000 := by
      have : C * i ≤ C * n := Nat.mul_le_mul_left C (by omega)
      have : C * n = n * C := Nat.mul_comm ..
      omega
    obtain ⟨l0, l1, l2⟩ := next_mul c0 b0
    have gb : Bits (C + 1) ((Int.gcd c (bs i) : Nat) : Int) := (Bits.gcd bb (by omega)).up (Nat.le_succ C)
    have g0 : 0 < ((Int.gcd c (bs i) : Nat) : Int) := by
      have := Int.gcd_pos_of_ne_zero_left (bs i) (show c ≠ 0 by omega)
      omega
    walk_at "zz"
    refine z_repU cb bb (by omega) ?_
    walk_at "zz"
    refine u_gcd ?_
    walk_at "zz"
    refine z_div g0 gb (Nat.succ_pos C) (by omega) ?_
    walk_at "zz"
    refine ⟨_, _, rfl, rfl, l0, Bits.up (cb.mul bb).div (by rw [Nat.mul_succ]; omega), fun j hj => ?_⟩
    by_cases e : j = i
    · rw [e]
      exact l2
    · exact Int.dvd_trans (cd j (by omega)) l1
  rintro σ' H' ⟨c, x2, rfl, rfl, c0, cb, cd⟩
  rw [lxs, Nat.mul_comm] at cb
  rw [lxs] at cd
  walk_at "zz"
  refine z_lcVF (fun j => V.int (ts j * (c / bs j))) hxs (by omega) (fun j x H4 N hx s4 c4 => ⟨rfl, ?_⟩) (fun D HD hD sD hlD => ?_)
  · have hj := lt_of_at hx lxs
    obtain ⟨ex, ht, b0, tb, bb, e⟩ := its j hj
    rw [ex] at hx
    cases hx
    have ht4 := s4 _ _ (s1 _ _ ht)
    walk_at "zz"
    refine z_div b0 (bb.up (Nat.le_succ C)) (Nat.succ_pos C) (by omega) ?_
    refine z_repU tb cb.div (by omega) ?_
    exact c4 _ (fun _ _ h => h)
  rw [lxs] at hlD
  obtain ⟨cs, ecs, lcs, ccs⟩ := range_ints (n := n) fun j => ts j * (c / bs j)
  rw [ecs] at hlD
  have bcs : ∀ k, Bits (B + n * C + 1) (cf cs k) := fun k => by
    by_cases h : k < n
    · rw [ccs k h]
      exact Bits.up ((its k h).2.2.2.1.mul cb.div) (by omega)
    · rw [S31.cf_out (by omega)]
      exact Bits.zero
  have vcs : ∀ k, k < n → (cf cs k : Rat) = v k * (c : Rat) := fun k h => by
    obtain ⟨ex, hr, b0, tb, bb, e⟩ := its k h
    have e1 : c / bs k * bs k = c := Int.ediv_mul_cancel (cd k h)
    have e2 : ((c / bs k : Int) : Rat) * (bs k : Rat) = (c : Rat) := by rw [← Rat.intCast_mul, e1]
    rw [ccs k h, Rat.intCast_mul, e, ← e2, Rat.mul_assoc, Rat.mul_comm (bs k : Rat)]
  walk_at "zz"
  rename_i lo H2 hlo s2 elo up0 H3 hup s3 eup
  have sD3 : Same HD H3 := s2.trans s3
  have ne0 : up0 ≠ lo := (ne_of_none elo hup).symm
  have hloD : HD lo = none := hlo
  refine z_foRe (n := n) (by omega) (by omega) (fun i σ' H' => ∃ (u : Addr) (x8 x9 x10 x11 : Option V), σ' = [some (.ref p), some (.int ((n : Int) - 1)), some (.ref rw_), some (.int (c * 2 ^ i)), x2, some (.ref D), some (.ref lo), some (.ref u), x8, x9, x10, x11] ∧ Same HD H' ∧ u ≠ lo ∧ Ls H' lo i (itPB (fun k => S30.U k v) (B + n * C + 140) (n * C + 61)) ∧ Ls H' u i (itPB (fun k => S30.U (i - 1 - k) (rv (n - 1) v)) (B + n * C + 140) (n * C + 61))) ⟨up0, _, _, _, _, by rw [Int.pow_zero, Int.mul_one]; rfl, sD3, ne0, ⟨[], s3 _ _ elo, rfl, fun k x e => by simp at e⟩, ⟨[], eup, rfl, fun k x e => by simp at e⟩⟩ ?_ ?_
  · rintro i σ' H' hi ⟨u, x8, x9, x10, x11, rfl, sH, nul, hL, hU⟩
    have hlD' := sH _ _ hlD
    have rws' := (rws.mono sD).mono sH
    have ob : Bits (n * C + 61) (c * 2 ^ i) := Bits.up cb.shl (by omega)
    walk_at "zz"
    refine z_foRe (n := i + 1) (by omega) (by omega) (fun j σ' H4 => ∃ (a b : Int) (x11 : Option V), σ' = [some (.ref p), some (.int ((n : Int) - 1)), some (.ref rw_), some (.int (c * 2 ^ i)), x2, some (.ref D), some (.ref lo), some (.ref u), some (.int i), some (.int a), some (.int b), x11] ∧ H' = H4 ∧ Bits (B + n * C + 70 + j) a ∧ Bits (B + n * C + 70 + j) b ∧ (a : Rat) = S30.E (pw i (ic cs)) 1 j ∧ (b : Rat) = S30.E (pw i (fun k => (cf cs (n - 1 - i + k) : Rat))) 1 j) ⟨0, 0, _, rfl, rfl, Bits.zero, Bits.zero, rfl, rfl⟩ ?_ ?_
    · rintro j σ' H4 hj ⟨a, b, x11, rfl, rfl, ab_, bb_, ea, eb⟩
      have pbb : Bits 61 (pb i j) := pb_bits (by omega)
      walk_at "zz"
      refine z_ixR (k := i) rws' rfl (by omega) (fun a1 rs ha1 lr cr => ?_)
      walk_at "zz"
      refine z_ixcf (j := j) ha1 rfl (by omega) ?_
      walk_at "zz"
      refine z_ixcf (j := j) hlD' rfl (by omega) ?_
      rw [cr]
      refine z_repU pbb (bcs j) (by omega) ?_
      walk_at "zz"
      refine z_ixR (k := i) rws' rfl (by omega) (fun a2 rs2 ha2 lr2 cr2 => ?_)
      walk_at "zz"
      refine z_ixcf (j := j) ha2 rfl (by omega) ?_
      walk_at "zz"
      refine z_ixcf (j := n - 1 - i + j) hlD' (by omega) (by omega) ?_
      rw [cr2]
      refine z_repU pbb (bcs _) (by omega) ?_
      walk_at "zz"
      refine ⟨_, _, _, rfl, rfl, Bits.add (a := B + n * C + 70 + j) ab_ (Bits.up (pbb.mul (bcs j)) (by omega)), Bits.add (a := B + n * C + 70 + j) bb_ (Bits.up (pbb.mul (bcs _)) (by omega)), ?_, ?_⟩
      · rw [Rat.intCast_add, ea, Rat.intCast_mul, E_1]
        rfl
      · rw [Rat.intCast_add, eb, Rat.intCast_mul, E_1]
        rfl
    · rintro σ' H4 ⟨a, b, x11, rfl, rfl, ab_, bb_, ea, eb⟩
      rw [← T_sum] at ea eb
      have oi : 0 < c * 2 ^ i := Int.mul_pos c0 (Int.pow_pos (by decide))
      obtain ⟨ls, hls, lls, ils⟩ := id hL
      walk_at "zz"
      refine z_app rfl hls ?_
      walk_at "zz"
      rename_i tp H5 htp s5 etp
      obtain ⟨ls, hls, lls, ils⟩ := hL.mono itPB_mono s5
      refine z_ap hls (by omega) ?_
      have hU5 := hU.mono itPB_mono s5
      have a1 := Ls.snoc (It := itPB (fun k => S30.U k v) (B + n * C + 140) (n * C + 61)) itPB_mono hls lls ils ⟨tp, a, c * 2 ^ i, rfl, etp, oi, Bits.up ab_ (by omega), ob, by rw [ea]; exact sum_lo vcs hi⟩
      have a2 : Same HD (upd H5 lo (.lst (ls ++ [.ref tp]))) := Same.put (sH.trans s5) hloD
      obtain ⟨us, hus, lus, ius⟩ := hU5
      have a3 : Ls (upd H5 lo (.lst (ls ++ [.ref tp]))) u i (itPB (fun k => S30.U (i - 1 - k) (rv (n - 1) v)) (B + n * C + 140) (n * C + 61)) := ⟨us, by rw [upd_ne nul]; exact hus, lus, fun k x e => itPB_mono _ _ _ _ (SameN.put hls) (ius k x e)⟩
      generalize (upd H5 lo (.lst (ls ++ [.ref tp]))) = H6 at *
      walk_at "zz"
      rename_i tq H7 htq s7 etq w1 H8 hw1 s8 ew1
      obtain ⟨us, hus, lus, ius⟩ := (a3.mono itPB_mono s7).mono itPB_mono s8
      refine z_cat ew1 hus (by simp; omega) (fun w2 H9 hw2 s9 ew2 => ?_)
      have two : Bits 2 (2 : Int) := Bits.small (by decide) (by decide)
      walk_at "zz"
      have hL9 := ((a1.mono itPB_mono s7).mono itPB_mono s8).mono itPB_mono s9
      have e2 : (2 : Int) * (c * 2 ^ i) = c * 2 ^ (i + 1) := by
        rw [Int.pow_succ]
        grind
      rw [e2]
      refine ⟨w2, _, _, _, _, rfl, ((a2.trans s7).trans s8).trans s9, ?_, hL9, ⟨_, ew2, by simp [lus] <;> omega, fun k x e => ?_⟩⟩
      · obtain ⟨_, hl8, _⟩ := (a1.mono itPB_mono s7).mono itPB_mono s8
        exact (ne_of_none hl8 hw2).symm
      · cases k with
        | zero =>
          cases e
          refine ⟨tq, b, c * 2 ^ i, rfl, s9 _ _ (s8 _ _ etq), oi, Bits.up bb_ (by omega), ob, ?_⟩
          rw [eb]
          exact sum_hi vcs hi
        | succ k =>
          have hk : us[k]? = some x := e
          have := itPB_mono _ _ _ _ (SameN.of s9) (ius k x hk)
          obtain ⟨a', t', b', q1, q2, q3, q4, q5, q6⟩ := this
          refine ⟨a', t', b', q1, q2, q3, q4, q5, ?_⟩
          rw [q6]
          show S30.U (i - 1 - k) _ * _ = S30.U (i + 1 - 1 - (k + 1)) _ * _
          rw [show i + 1 - 1 - (k + 1) = i - 1 - k by omega]
  · rintro σ' H' ⟨u, x8, x9, x10, x11, rfl, sH, nul, hL, hU⟩
    walk_at "zz"
    exact k _ _ _ _ (by walk_at "sm") (by assumption) (PB.mono (by assumption) hL) (PB.mono (by assumption) hU)
theorem c_law_halves (L : Lw K mg) : Cal P w K mg base 3 "_law_halves" (sp1 fs_halves) [] := by
  obtain ⟨fd, F⟩ := L.d_law_halves
  exact ⟨⟨_, fd, ["numbers"], [], ok_law_halves L F, L.g_law_halves, F.kp, F.bindsN (fun _ _ _ _ _ _ us hl => match us, hl with | [_], _ => rfl), .nil⟩⟩
end
end T

set_option maxHeartbeats 4000000
namespace T
open PySem PySem.Spec PyProof.Rows L2 Z
/-! the readings' steps, as one word: walk_at "z" (one step), "zz" (as far as it goes), "up" (a fact carried here) -/
local macro_rules | `(tactic| walk_at "up") => `(tactic| first
  | assumption
  | (refine' IsR.mono (by assumption) ?zup; case zup => walk_at "up")
  | (refine' IsE.mono (by assumption) ?zup; case zup => walk_at "up")
  | (refine' Same.at (by assumption) ?zup; case zup => walk_at "up")
  | (refine' SqL.of ?zup; case zup => walk_at "up")
  | (refine' L2.Same.seq (by assumption) ?zup; case zup => walk_at "up"))
local macro_rules | `(tactic| walk_at "z") => `(tactic| first
  | ((with_reducible refine' z_var ?zvh ?_); (case zvh => exact rfl))
  | with_reducible refine z_c ?_
  | with_reducible refine z_cons ?_
  | with_reducible refine z_nil ?_
  | with_reducible refine z_op ?_
  | with_reducible refine z_nx ?_
  | with_reducible refine z_seq ?_
  | with_reducible refine z_asg ?_
  | with_reducible refine z_asgG ?_
  | with_reducible refine z_call ?_
  | with_reducible refine z_sq0 ?_
  | with_reducible refine z_sq1 ?_
  | with_reducible refine z_ifS ?_
  | with_reducible refine z_test ?_
  | with_reducible refine z_tb ?_
  | with_reducible refine z_bl ?_
  | with_reducible refine z_blI ?_
  | with_reducible refine z_ret ?_
  | with_reducible refine z_rt ?_
  | with_reducible refine z_T ?_
  | with_reducible refine z_F ?_
  | with_reducible refine z_add ?_
  | with_reducible refine z_sub ?_
  | with_reducible refine z_neg ?_
  | with_reducible refine z_un ?_
  | with_reducible refine z_eqI ?_
  | with_reducible refine z_neI ?_
  | with_reducible refine z_lt ?_
  | with_reducible refine z_le ?_
  | with_reducible refine z_gt ?_
  | with_reducible refine z_ge ?_
  | with_reducible refine z_not ?_
  | with_reducible refine z_and ?_
  | with_reducible refine z_or ?_
  | with_reducible refine z_andV ?_
  | with_reducible refine z_orV ?_
  | with_reducible refine z_notV ?_
  | with_reducible refine z_if ?_
  | with_reducible refine z_cb ?_
  | with_reducible refine z_int1 ?_
  | with_reducible refine z_intb ?_
  | with_reducible refine z_abs ?_
  | with_reducible refine z_gcd ?_
  | with_reducible refine z_isi_ii ?_
  | with_reducible refine z_isi_ib ?_
  | with_reducible refine z_next ?_
  | with_reducible refine z_drop ?_
  | with_reducible refine z_par ?_
  | with_reducible refine z_par2 ?_
  | with_reducible refine z_tupN ?_
  | with_reducible refine z_lstN ?_
  | ((with_reducible refine' z_nt ?zl1 ?_); (case zl1 => exact Nat.le_of_ble_eq_true rfl); intro p H' hp hs he)
  | ((with_reducible refine' z_gtup ?zl1 ?zl2 ?_); (case zl1 => walk_at "up"); (case zl2 => exact rfl))
  | with_reducible refine z_bk ?_
  | with_reducible refine z_ct ?_
  | with_reducible refine z_break ?_
  | with_reducible refine z_cont ?_
  | with_reducible refine z_retN ?_
  | with_reducible refine z_nn ?_
  | with_reducible refine z_mk ?_
  | with_reducible refine z_gn ?_
  | with_reducible refine z_gcons ?_
  | with_reducible refine z_gnil ?_
  | with_reducible refine z_mt ?_
  | with_reducible refine z_mko ?_
  | with_reducible refine z_for2 ?_
  | with_reducible refine z_ownI ?_
  | ((with_reducible refine' z_lenL ?zl1 ?_); (case zl1 => walk_at "up"))
  | ((with_reducible refine' z_ixT ?zl1 ?zl2 ?_); (case zl1 => walk_at "up"); (case zl2 => exact rfl))
  | ((with_reducible refine' z_mulL ?zl1 ?zl2 ?_); (case zl1 => omega); (case zl2 => omega))
  | ((with_reducible refine' z_mulR ?zl1 ?zl2 ?_); (case zl1 => omega); (case zl2 => omega))
  | ((with_reducible refine' z_divS ?zl1 ?zl2 ?_); (case zl1 => omega); (case zl2 => omega))
  | ((with_reducible refine' z_mulW ?zl1 ?zl2 ?zl3 ?zl4 ?_); (case zl1 => omega); (case zl2 => omega); (case zl3 => omega); (case zl4 => omega))
  | ((with_reducible refine' z_divW ?zl1 ?zl2 ?_); (case zl1 => omega); (case zl2 => omega)))
local macro_rules | `(tactic| walk_at "zz") => `(tactic| repeat (walk_at "z"))
local macro_rules | `(tactic| walk_at "z") => `(tactic| with_reducible refine z_lstN ?_)
local macro_rules | `(tactic| walk_at "z") => `(tactic| with_reducible refine z_p6 ?_)
local macro_rules | `(tactic| walk_at "z") => `(tactic| with_reducible refine z_p12 ?_)
local macro_rules | `(tactic| walk_at "z") => `(tactic| with_reducible refine z_p13 ?_)
local macro_rules | `(tactic| walk_at "z") => `(tactic| with_reducible refine z_calln ?_)
local macro_rules | `(tactic| walk_at "z") => `(tactic| with_reducible refine z_xfS ?_)
local macro_rules | `(tactic| walk_at "z") => `(tactic| with_reducible refine z_lcS ?_)
local macro_rules | `(tactic| walk_at "z") => `(tactic| with_reducible refine z_lcRS ?_)
local macro_rules | `(tactic| walk_at "z") => `(tactic| with_reducible refine z_lcZS ?_)
local macro_rules | `(tactic| walk_at "z") => `(tactic| with_reducible refine z_foS ?_)
local macro_rules | `(tactic| walk_at "z") => `(tactic| with_reducible refine z_for1 ?_)
local macro_rules | `(tactic| walk_at "z") => `(tactic| with_reducible refine z_tsl ?_)
local macro_rules | `(tactic| walk_at "z") => `(tactic| with_reducible refine z_np ?_)
local macro_rules | `(tactic| walk_at "z") => `(tactic| with_reducible refine z_pt ?_)
local macro_rules | `(tactic| walk_at "z") => `(tactic| with_reducible refine z_pti ?_)
local macro_rules | `(tactic| walk_at "z") => `(tactic| with_reducible refine z_catI ?_)
local macro_rules | `(tactic| walk_at "z") => `(tactic| with_reducible refine z_isNI ?_)
local macro_rules | `(tactic| walk_at "z") => `(tactic| with_reducible refine z_isNN ?_)
local macro_rules | `(tactic| walk_at "z") => `(tactic| with_reducible refine z_notNI ?_)
local macro_rules | `(tactic| walk_at "z") => `(tactic| with_reducible refine z_notNN ?_)
local macro_rules | `(tactic| walk_at "z") => `(tactic| with_reducible refine z_gsub ?_)
local macro_rules | `(tactic| walk_at "z") => `(tactic| with_reducible refine z_isNb ?_)
local macro_rules | `(tactic| walk_at "z") => `(tactic| with_reducible refine z_notNb ?_)
local macro_rules | `(tactic| walk_at "z") => `(tactic| ((with_reducible refine' z_nlR ?zl1 ?_); (case zl1 => exact Nat.le_of_ble_eq_true rfl); intro p H' hp hs he))
local macro_rules | `(tactic| walk_at "z") => `(tactic| ((with_reducible refine' z_repR ?zl1 ?zl2 ?_); (case zl1 => omega); (case zl2 => omega)))
local macro_rules | `(tactic| walk_at "z") => `(tactic| ((with_reducible refine' z_repL ?zl1 ?zl2 ?_); (case zl1 => omega); (case zl2 => omega)))
local macro_rules | `(tactic| walk_at "z") => `(tactic| ((with_reducible refine' z_lenLst ?zl1 ?_); (case zl1 => walk_at "up")))
local macro_rules | `(tactic| walk_at "z") => `(tactic| ((with_reducible refine' z_cat ?zl1 ?zl2 ?zl3 ?_); (case zl1 => walk_at "up"); (case zl2 => walk_at "up"); (case zl3 => (simp only [List.length_map, List.length_cons, List.length_nil, List.length_append, List.length_replicate]; omega)); intro p H' hp hs he))
local macro_rules | `(tactic| walk_at "z") => `(tactic| with_reducible refine z_sfl ?_)
local macro_rules | `(tactic| walk_at "z") => `(tactic| with_reducible refine z_lcES ?_)
local macro_rules | `(tactic| walk_at "z") => `(tactic| with_reducible refine z_lcMS ?_)
local macro_rules | `(tactic| walk_at "z") => `(tactic| with_reducible refine z_foES ?_)
local macro_rules | `(tactic| walk_at "z") => `(tactic| with_reducible refine z_fo3S ?_)
local macro_rules | `(tactic| walk_at "z") => `(tactic| with_reducible refine z_sta ?_)
local macro_rules | `(tactic| walk_at "z") => `(tactic| with_reducible refine z_sta1 ?_)
local macro_rules | `(tactic| walk_at "z") => `(tactic| with_reducible refine z_lcTS ?_)
local macro_rules | `(tactic| walk_at "z") => `(tactic| with_reducible refine z_foTS ?_)
local macro_rules | `(tactic| walk_at "z") => `(tactic| ((with_reducible refine' z_fldt ?zc1 ?zc2 ?zl1 ?zl2 ?_); (case zc1 => exact Lw.cl_Ratio (by assumption)); (case zc2 => exact Lw.na_Ratio_top (by assumption)); (case zl1 => exact rfl); (case zl2 => walk_at "up")))
local macro_rules | `(tactic| walk_at "z") => `(tactic| ((with_reducible refine' z_fldb ?zc1 ?zc2 ?zl1 ?zl2 ?_); (case zc1 => exact Lw.cl_Ratio (by assumption)); (case zc2 => exact Lw.na_Ratio_bottom (by assumption)); (case zl1 => exact rfl); (case zl2 => walk_at "up")))
local macro_rules | `(tactic| walk_at "z") => `(tactic| ((with_reducible refine' z_fldG ?zc1 ?zc2 ?zl0 ?zl1 ?zl2 ?_); (case zc1 => exact Lw.cl_Poly (by assumption)); (case zc2 => exact Lw.na_Poly_numbers (by assumption)); (case zl0 => exact rfl); (case zl1 => walk_at "up"); (case zl2 => exact lkA)))
local macro_rules | `(tactic| walk_at "z") => `(tactic| ((with_reducible refine' z_fldG ?zc1 ?zc2 ?zl0 ?zl1 ?zl2 ?_); (case zc1 => exact Lw.cl_Poly (by assumption)); (case zc2 => exact Lw.na_Poly_over (by assumption)); (case zl0 => exact rfl); (case zl1 => walk_at "up"); (case zl2 => exact lkO)))
local macro_rules | `(tactic| walk_at "z") => `(tactic| ((with_reducible refine' z_fldG ?zc1 ?zc2 ?zl0 ?zl1 ?zl2 ?_); (case zc1 => exact Lw.cl_Poly (by assumption)); (case zc2 => exact Lw.na_Poly_degree (by assumption)); (case zl0 => exact rfl); (case zl1 => walk_at "up"); (case zl2 => exact lkD)))
local macro_rules | `(tactic| walk_at "z") => `(tactic| ((with_reducible refine' z_isR ?zl1 ?zl2 ?zl3 ?_); (case zl1 => exact Lw.in_Ratio (by assumption)); (case zl2 => exact Lw.kt_Ratio_Ratio (by assumption)); (case zl3 => walk_at "up")))
local macro_rules | `(tactic| walk_at "z") => `(tactic| with_reducible refine z_revL ?_)
theorem same30p {H H1 H2 : Hp} (h : Same H1 H2) (e : Same H H1) : Same H H2 := e.trans h
local macro_rules | `(tactic| walk_at "sm") => `(tactic| first
  | assumption
  | exact fun _ _ h => h
  | (refine' same30p (by assumption) ?zsm; case zsm => walk_at "sm"))
local macro_rules | `(tactic| walk_at "bt") => `(tactic| first
  | assumption
  | exact fun _ _ _ h => h
  | (refine' But.trans ?zsm (by assumption); case zsm => walk_at "bt")
  | (refine' But.trans ?zsm (But.of (by assumption)); case zsm => walk_at "bt"))

open S31 (cf pb pb_succ)
open S30
def zBm (K : Frag) (x : V) (H : Hp) (R : Prop) : Prop := tyV K "list" x H ∧ R
theorem z_bm {K : Frag} {ta : TE} {t : TA} {σ : L2.St} {H : Hp} {Q : VK} (q : ta σ H fun x H1 => zBm K x H1 (t σ H1 fun vs H2 => rAppend x vs H2 Q)) : tBM K "list" rAppend ta t σ H Q := q
theorem z_bml {K : Frag} {H : Hp} {l : Addr} {xs : List V} {R : Prop} (h : H l = some (.lst xs)) (q : R) : zBm K (.ref l) H R := ⟨.inl ⟨rfl, _, SqL.of h⟩, q⟩
theorem u_ratios {K : Frag} {H : Hp} {Q : VK} {E : XK} {p : Addr} {n B C : Nat} {v : Sq} (h : PB H p n v B C) (hn : n ≤ 1000) (hC : C ≤ 8999) (k : ∀ l H', Same H H' → H l = none → RB K H' l n v B C → Q (.ref l) H') : sp1 (fs_ratios K) [.ref p] H Q E := ⟨_, rfl, p, n, B, C, v, rfl, h, hn, hC, k⟩
def fs_lhalved (K : Frag) : F1 := fun a H Q _ => ∃ (p : Addr) (n B C : Nat) (v : Sq), a = .ref p ∧ PB H p n v B C ∧ 1 ≤ n ∧ n ≤ 60 ∧ C ≤ 2000 ∧ B ≤ 5000 ∧ n * C ≤ 5900 ∧ n * (n * C + 61) ≤ 60000 ∧ ∀ H', Same H H' → Q (.bl true) H'
theorem bend_cmp {m o m' o' : Int} (h0 : 0 < o) (h1 : 0 < o') (h : 4 * ((m' : Rat) / (o' : Rat)) ≤ (m : Rat) / (o : Rat)) : ¬ m * o' < 4 * m' * o := fun c => by
  have c2 : (m : Rat) * (o' : Rat) < 4 * (m' : Rat) * (o : Rat) := by
    have : ((m * o' : Int) : Rat) < ((4 * m' * o : Int) : Rat) := Rat.intCast_lt_intCast.mpr c
    rw [Rat.intCast_mul, Rat.intCast_mul, Rat.intCast_mul, show ((4 : Int) : Rat) = 4 from rfl] at this
    exact this
  have p0 : (0 : Rat) < (o : Rat) := by exact_mod_cast h0
  have p1 : (0 : Rat) < (o' : Rat) := by exact_mod_cast h1
  have q := Rat.mul_nonneg (Rat.mul_nonneg (show 0 ≤ (m : Rat) / (o : Rat) - 4 * ((m' : Rat) / (o' : Rat)) by grind) (Rat.le_of_lt p0)) (Rat.le_of_lt p1)
  have e : ((m : Rat) / (o : Rat) - 4 * ((m' : Rat) / (o' : Rat))) * (o : Rat) * (o' : Rat) = (m : Rat) * (o' : Rat) - 4 * (m' : Rat) * (o : Rat) := by
    have a1 : (o : Rat) ≠ 0 := by grind
    have a2 : (o' : Rat) ≠ 0 := by grind
    grind
  rw [e] at q
  grind
local macro_rules | `(tactic| walk_at "up") => `(tactic| first
  | assumption
  | (with_reducible refine' IsPool.mono (by assumption) ?zup; case zup => walk_at "up")
  | (with_reducible refine' IsR.mono (by assumption) ?zup; case zup => walk_at "up")
  | (with_reducible refine' IsV.mono (by assumption) ?zup; case zup => walk_at "up")
  | (with_reducible refine' IsQ.mono (by assumption) ?zup; case zup => walk_at "up")
  | (with_reducible refine' PQ.mono (by assumption) ?zup; case zup => walk_at "up")
  | (with_reducible refine' RL.mono (by assumption) ?zup; case zup => walk_at "up")
  | (with_reducible refine' PL.mono (by assumption) ?zup; case zup => walk_at "up")
  | (with_reducible refine' RB.mono (by assumption) ?zup; case zup => walk_at "up")
  | (with_reducible refine' PB.mono (by assumption) ?zup; case zup => walk_at "up")
  | (with_reducible refine' Rows.mono (by assumption) ?zup; case zup => walk_at "up")
  | (with_reducible refine' Same.at (by assumption) ?zup; case zup => walk_at "up")
  | (with_reducible refine' But.at (by assumption) ?zne ?zup; (case zne => (first | assumption | exact Ne.symm (by assumption))); (case zup => walk_at "up"))
  | (with_reducible refine' IsPool.of ?zup; case zup => walk_at "up")
  | fail)
local macro_rules | `(tactic| walk_at "z") => `(tactic| with_reducible refine z_bm ?_)
section
variable {P : Program} {w : World} {K : Frag} {mg : Str → Option Value} {base : Heap}
theorem ok_law_halved (L : Lw K mg) {fd : FuncData} (F : FunD K "_law_halved" "_law_halved" (defArgs s_law_halved) (defBody s_law_halved) (defScope s_law_halved) (df_law_halved.dvs K) (df_law_halved.kws K) (He.fAd K ("_law_halved", none)) fd) : FnOk P w K mg base (L2N.CX P w) 5 (He.fAd K ("_law_halved", none)) fd (["numbers"] : List Str) (sp1 (fs_lhalved K)) := by
  refine FunD.ok F sc_law_halved len1 (fun cdv A outer s H vs Q E hr h => ?_)
  obtain ⟨a, rfl, h⟩ := h
  refine ⟨_, (pss_cons (ps_set (i := 1) sc_law_halved.nd rfl (by first | exact Or.inl rfl | exact Or.inr rfl) (pe_c (c_law_halves (K := K) L) hr (by decide) (L2N.takes_of rfl rfl rfl rfl) (pa_cons (pv 0) pa_nil)))
    (pss_cons (ps_for (passes_of rfl) rfl (pi_range1 (by rfl) L.f_range (pa_cons pe_int pa_nil)) (pg_name (i := 2) sc_law_halved.nd rfl (by first | exact Or.inl rfl | exact Or.inr rfl)) (pss_cons (ps_set (i := 3) sc_law_halved.nd rfl (by first | exact Or.inl rfl | exact Or.inr rfl) (pe_c (c_law_ratios (K := K) L) hr (by decide) (L2N.takes_of rfl rfl rfl rfl) (pa_cons (pv 0) pa_nil)))
    (pss_cons (ps_set (i := 4) sc_law_halved.nd rfl (by first | exact Or.inl rfl | exact Or.inr rfl) (pe_c (c_halved (K := K) L) hr (by decide) (L2N.takes_of rfl rfl rfl rfl) (pa_cons (pv 3) pa_nil)))
    (pss_cons (ps_if (PW.pt (pw_or (pt_not (pt_val (pe_callB (callK rIsi (K := K) rfl call_isi) (by rfl) L.f_isinstance (by decide +kernel) (pa_cons (pv 4) (pa_cons (pe_ty "tuple" (by rfl) L.f_tuple (by decide +kernel)) pa_nil))))) (pw_or1 (pt_cmpR op_ne (pe_callB (callK rLen1 (K := K) rfl o_len) (by rfl) L.f_len (by decide +kernel) (pa_cons (pv 4) pa_nil)) pe_int (nomark _))))) (pss_one (ps_ret pe_bl)) pss_nil)
    (pss_cons (ps_if (pt_not (pt_val (pe_c (c_law_are (K := K) L) hr (by decide) (L2N.takes_of rfl rfl rfl rfl) (pa_cons (pv 3) (pa_cons (pv 0) pa_nil))))) (pss_one (ps_ret pe_bl)) pss_nil)
    (pss_cons (ps_expr (pe_bm PySem.F.plainAttrs_list PySem.F.slot_list_append PySem.F.type_list_append mt_append (pv 3) (pa_cons (pe_mk (c1_RatioD_initD (K := K) L) hr (by decide) (L2N.takes_of rfl rfl rfl rfl) (pa_cons pe_int pa_nil)) pa_nil)))
    (pss_cons (ps_if (PW.pt (pw_or (pt_not (pt_val (pe_c (c_law_are (K := K) L) hr (by decide) (L2N.takes_of rfl rfl rfl rfl) (pa_cons (pe_ix (ix_seqK (K := K) rfl) (pv 4) pe_int (fun _ _ => rfl)) (pa_cons (pe_ix (ix_seqK (K := K) rfl) (pv 1) pe_int (fun _ _ => rfl)) pa_nil))))) (pw_or1 (pt_not (pt_val (pe_c (c_law_are (K := K) L) hr (by decide) (L2N.takes_of rfl rfl rfl rfl) (pa_cons (pe_ix (ix_seqK (K := K) rfl) (pv 4) pe_int (fun _ _ => rfl)) (pa_cons (pe_ix (ix_seqK (K := K) rfl) (pv 1) pe_int (fun _ _ => rfl)) pa_nil)))))))) (pss_one (ps_ret pe_bl)) pss_nil)
    (pss_cons (ps_expr (pe_bm PySem.F.plainAttrs_list PySem.F.slot_list_append PySem.F.type_list_append mt_append (pe_ix (ix_seqK (K := K) rfl) (pv 4) pe_int (fun _ _ => rfl)) (pa_cons (pe_mk (c1_RatioD_initD (K := K) L) hr (by decide) (L2N.takes_of rfl rfl rfl rfl) (pa_cons pe_int pa_nil)) pa_nil)))
    (pss_one (ps_expr (pe_bm PySem.F.plainAttrs_list PySem.F.slot_list_append PySem.F.type_list_append mt_append (pe_ix (ix_seqK (K := K) rfl) (pv 4) pe_int (fun _ _ => rfl)) (pa_cons (pe_mk (c1_RatioD_initD (K := K) L) hr (by decide) (L2N.takes_of rfl rfl rfl rfl) (pa_cons pe_int pa_nil)) pa_nil))))))))))))
    (pss_cons (ps_set (i := 5) sc_law_halved.nd rfl (by first | exact Or.inl rfl | exact Or.inr rfl) (pe_c (c_law_bend (K := K) L) hr (by decide) (L2N.takes_of rfl rfl rfl rfl) (pa_cons (pv 0) pa_nil)))
    (pss_cons (ps_for (passes_of rfl) rfl (pi_tupK (K := K) rfl (pv 1)) (pg_name (i := 6) sc_law_halved.nd rfl (by first | exact Or.inl rfl | exact Or.inr rfl)) (pss_cons (ps_set (i := 7) sc_law_halved.nd rfl (by first | exact Or.inl rfl | exact Or.inr rfl) (pe_c (c_law_bend (K := K) L) hr (by decide) (L2N.takes_of rfl rfl rfl rfl) (pa_cons (pv 6) pa_nil)))
    (pss_one (ps_if (pt_cmpR o_gt (pe_op o_rep (pe_op o_rep pe_int (pe_ix (ix_seqK (K := K) rfl) (pv 7) pe_int (fun _ _ => rfl))) (pe_ix (ix_seqK (K := K) rfl) (pv 5) pe_int (fun _ _ => rfl))) (pe_op o_rep (pe_ix (ix_seqK (K := K) rfl) (pv 5) pe_int (fun _ _ => rfl)) (pe_ix (ix_seqK (K := K) rfl) (pv 7) pe_int (fun _ _ => rfl))) (nomark _)) (pss_one (ps_ret pe_bl)) pss_nil))))
    (pss_one (ps_ret pe_bl)))))), ?_⟩
  obtain ⟨p, n, B, C, v, rfl, hp, n1, n60, hC, hB, hnC, hnn, k⟩ := h
  walk_at "zz"
  refine ⟨_, rfl, p, n, B, C, v, rfl, hp, n1, n60, by omega, by omega, hnC, fun t l u H1 s1 et hl hu => ?_⟩
  have hp1 := hp.mono s1
  walk_at "zz"
  refine z_foR (by omega) (by omega) (fun i σ' H' => ∃ (x2 x3 x4 : Option V), σ' = [some (.ref p), some (.ref t), x2, x3, x4, none, none, none] ∧ Same H1 H') ⟨_, _, _, rfl, fun _ _ h => h⟩ ?_ ?_
  · rintro i σ' H' hi ⟨x2, x3, x4, rfl, sH⟩
    have hpH := hp1.mono sH
    have etH := sH _ _ et
    walk_at "zz"
    refine u_ratios hpH (by omega) (by omega) (fun hd H2 s2 hhd hrb => ?_)
    walk_at "zz"
    refine ⟨_, rfl, hd, n, B, C, v, rfl, hrb, by omega, by omega, hnC, fun _ tt l2 u2 H3 s3 ett hl2 hu2 nl2 nu2 nlu => ?_, fun z => absurd ⟨n1, n60⟩ z⟩
    walk_at "zz"
    refine z_isi (.ty "tuple") (.base (.tup ett)) (c := .ty "tuple") (t := .type "tuple") (b := true) (kit_ty (by decide +kernel)) ?_
    walk_at "zz"
    refine z_lenT ett ?_
    walk_at "zz"
    refine z_dT rfl ?_
    walk_at "zz"
    have hrb3 := hrb.mono s3
    refine u_are (D := 20000) (hrb3.toL (by omega) (by omega) fun k hk => rfl) (((hpH.mono s2).mono s3).toL (by omega) (by omega) fun k hk => rfl) (by decide) (by omega) ?_
    walk_at "zz"
    obtain ⟨hs, ehs, lhs, _⟩ := hrb3
    refine z_bml ehs ?_
    walk_at "zz"
    refine z_mkR1 (fun r1 H4 s4 _ => ?_)
    walk_at "zz"
    refine z_ap (s4 _ _ ehs) (by omega) ?_
    have hhd1 : H' hd = none := hhd
    have sA : Same H' (upd H4 hd (.lst (hs ++ [.ref r1]))) := Same.put ((s2.trans s3).trans s4) hhd1
    have nl2' : H' l2 = none := Same.none s2 nl2
    have nu2' : H' u2 = none := Same.none s2 nu2
    have ne1 : l2 ≠ hd := by
      obtain ⟨_, z, _⟩ := hrb
      exact (ne_of_none z nl2).symm
    have ne2 : u2 ≠ hd := by
      obtain ⟨_, z, _⟩ := hrb
      exact (ne_of_none z nu2).symm
    have net : tt ≠ hd := fun z => by
      rw [z, ehs] at ett
      cases ett
    have ett4 : (upd H4 hd (.lst (hs ++ [.ref r1]))) tt = some (.tup [.ref l2, .ref u2]) := by rw [upd_ne net]; exact s4 _ _ ett
    have keepN : SameN H3 (upd H4 hd (.lst (hs ++ [.ref r1]))) := (SameN.of s4).trans (SameN.put (s4 _ _ ehs))
    obtain ⟨ls, els, lls, ils⟩ := hl2
    obtain ⟨us, eus, lus, ius⟩ := hu2
    have hl4 : RL K (upd H4 hd (.lst (hs ++ [.ref r1]))) l2 n (fun k => S30.U k v) 20000 := ⟨ls, by rw [upd_ne ne1]; exact s4 _ _ els, lls, fun k x e => itR_mono _ _ _ _ keepN (ils k x e)⟩
    have hu4 : RL K (upd H4 hd (.lst (hs ++ [.ref r1]))) u2 n (upH n v) 20000 := ⟨us, by rw [upd_ne ne2]; exact s4 _ _ eus, lus, fun k x e => itR_mono _ _ _ _ keepN (ius k x e)⟩
    generalize (upd H4 hd (.lst (hs ++ [.ref r1]))) = H5 at *
    have etA := sA _ _ etH
    have hlA := (hl.mono sH).mono sA
    have huA := (hu.mono sH).mono sA
    walk_at "zz"
    refine u_are (D := 20000) hl4 (hlA.toL (by omega) (by omega) fun k hk => rfl) (by decide) (by omega) ?_
    walk_at "zz"
    refine u_are (D := 20000) hu4 (huA.toL (by omega) (by omega) fun k hk => rfl) (by decide) (by omega) ?_
    walk_at "zz"
    obtain ⟨ls, els, lls, _⟩ := hl4
    obtain ⟨us, eus, lus, _⟩ := hu4
    refine z_bml els ?_
    walk_at "zz"
    refine z_mkR1 (fun r2 H6 s6 _ => ?_)
    walk_at "zz"
    refine z_ap (s6 _ _ els) (by omega) ?_
    have sB : Same H' (upd H6 l2 (.lst (ls ++ [.ref r2]))) := Same.put (sA.trans s6) nl2'
    have ntl : tt ≠ l2 := fun z => by
      rw [z, els] at ett4
      cases ett4
    have ett6 : (upd H6 l2 (.lst (ls ++ [.ref r2]))) tt = some (.tup [.ref l2, .ref u2]) := by rw [upd_ne ntl]; exact s6 _ _ ett4
    have eus6 : (upd H6 l2 (.lst (ls ++ [.ref r2]))) u2 = some (.lst us) := by rw [upd_ne nlu.symm]; exact s6 _ _ eus
    generalize (upd H6 l2 (.lst (ls ++ [.ref r2]))) = H7 at *
    walk_at "zz"
    refine z_bml eus6 ?_
    walk_at "zz"
    refine z_mkR1 (fun r3 H8 s8 _ => ?_)
    walk_at "zz"
    refine z_ap (s8 _ _ eus6) (by omega) ?_
    walk_at "zz"
    exact ⟨_, _, _, rfl, sH.trans (Same.put (sB.trans s8) nu2')⟩
  rintro σ' H' ⟨x2, x3, x4, rfl, sH⟩
  have hpH := hp1.mono sH
  have etH := sH _ _ et
  have hlH := hl.mono sH
  have huH := hu.mono sH
  walk_at "zz"
  refine ⟨_, rfl, p, n, B, C, v, rfl, hpH, n1, n60, by omega, by omega, by omega, fun tb H2 m o s2 etb o0 mb ob Bd => ?_⟩
  walk_at "zz"
  refine z_foT (s2 _ _ etH) (fun i σ' H3 => ∃ (x6 x7 : Option V), σ' = [some (.ref p), some (.ref t), x2, x3, x4, some (.ref tb), x6, x7] ∧ Same H2 H3) ⟨_, _, rfl, fun _ _ h => h⟩ (fun i σ' H3 z => by obtain ⟨_, _, _, s⟩ := z; exact s _ _ (s2 _ _ etH)) ?_ ?_
  · rintro i x σ' H3 hx ⟨x6, x7, rfl, s3⟩
    have hor : ∃ (y : Addr) (w : Sq), x = .ref y ∧ PB H3 y n w (B + n * C + 140) (n * C + 61) ∧ ∀ M', Bend n w M' → 4 * M' ≤ (m : Rat) / (o : Rat) := by
      match i, hx with
      | 0, hx =>
        cases hx
        exact ⟨l, _, rfl, (hlH.mono s2).mono s3, fun M' B' => bend_lo Bd B' fun k hk => rfl⟩
      | 1, hx =>
        cases hx
        refine ⟨u, _, rfl, (huH.mono s2).mono s3, fun M' B' => bend_hi Bd B' fun k hk => ?_⟩
        show S30.U (n - 1 - (n - 1 - k)) _ = _
        rw [show n - 1 - (n - 1 - k) = k by omega]
    obtain ⟨y, w, rfl, hy, hM⟩ := hor
    have etb3 := s3 _ _ etb
    walk_at "zz"
    refine ⟨_, rfl, y, n, _, _, w, rfl, hy, n1, n60, by omega, by omega, hnn, fun tc H4 m' o' s4 etc o0' mb' ob' Bd' => ?_⟩
    have etb4 := s4 _ _ etb3
    have cmp := bend_cmp (m := m) (m' := m') o0 o0' (hM _ Bd')
    have four : Bits 3 (4 : Int) := Bits.small (by decide) (by decide)
    walk_at "zz"
    refine z_repU (four.mul mb') ob (by omega) ?_
    walk_at "zz"
    refine z_repU mb ob' (by omega) ?_
    walk_at "zz"
    refine z_dF cmp ?_
    walk_at "zz"
    exact ⟨_, _, rfl, s3.trans s4⟩
  · rintro σ' H3 ⟨x6, x7, rfl, s3⟩
    walk_at "zz"
    exact k H3 (((s1.trans sH).trans s2).trans s3)
theorem c_law_halved (L : Lw K mg) : Cal P w K mg base 5 "_law_halved" (sp1 (fs_lhalved K)) [] := by
  obtain ⟨fd, F⟩ := L.d_law_halved
  exact ⟨⟨_, fd, ["numbers"], [], ok_law_halved L F, L.g_law_halved, F.kp, F.bindsN (fun _ _ _ _ _ _ us hl => match us, hl with | [_], _ => rfl), .nil⟩⟩
end
end T

set_option maxHeartbeats 4000000
namespace T
open PySem PySem.Spec PyProof.Rows L2 Z
/-! the readings' steps, as one word: walk_at "z" (one step), "zz" (as far as it goes), "up" (a fact carried here) -/
local macro_rules | `(tactic| walk_at "up") => `(tactic| first
  | assumption
  | (refine' IsR.mono (by assumption) ?zup; case zup => walk_at "up")
  | (refine' IsE.mono (by assumption) ?zup; case zup => walk_at "up")
  | (refine' Same.at (by assumption) ?zup; case zup => walk_at "up")
  | (refine' SqL.of ?zup; case zup => walk_at "up")
  | (refine' L2.Same.seq (by assumption) ?zup; case zup => walk_at "up"))
local macro_rules | `(tactic| walk_at "z") => `(tactic| first
  | ((with_reducible refine' z_var ?zvh ?_); (case zvh => exact rfl))
  | with_reducible refine z_c ?_
  | with_reducible refine z_cons ?_
  | with_reducible refine z_nil ?_
  | with_reducible refine z_op ?_
  | with_reducible refine z_nx ?_
  | with_reducible refine z_seq ?_
  | with_reducible refine z_asg ?_
  | with_reducible refine z_asgG ?_
  | with_reducible refine z_call ?_
  | with_reducible refine z_sq0 ?_
  | with_reducible refine z_sq1 ?_
  | with_reducible refine z_ifS ?_
  | with_reducible refine z_test ?_
  | with_reducible refine z_tb ?_
  | with_reducible refine z_bl ?_
  | with_reducible refine z_blI ?_
  | with_reducible refine z_ret ?_
  | with_reducible refine z_rt ?_
  | with_reducible refine z_T ?_
  | with_reducible refine z_F ?_
  | with_reducible refine z_add ?_
  | with_reducible refine z_sub ?_
  | with_reducible refine z_neg ?_
  | with_reducible refine z_un ?_
  | with_reducible refine z_eqI ?_
  | with_reducible refine z_neI ?_
  | with_reducible refine z_lt ?_
  | with_reducible refine z_le ?_
  | with_reducible refine z_gt ?_
  | with_reducible refine z_ge ?_
  | with_reducible refine z_not ?_
  | with_reducible refine z_and ?_
  | with_reducible refine z_or ?_
  | with_reducible refine z_andV ?_
  | with_reducible refine z_orV ?_
  | with_reducible refine z_notV ?_
  | with_reducible refine z_if ?_
  | with_reducible refine z_cb ?_
  | with_reducible refine z_int1 ?_
  | with_reducible refine z_intb ?_
  | with_reducible refine z_abs ?_
  | with_reducible refine z_gcd ?_
  | with_reducible refine z_isi_ii ?_
  | with_reducible refine z_isi_ib ?_
  | with_reducible refine z_next ?_
  | with_reducible refine z_drop ?_
  | with_reducible refine z_par ?_
  | with_reducible refine z_par2 ?_
  | with_reducible refine z_tupN ?_
  | with_reducible refine z_lstN ?_
  | ((with_reducible refine' z_nt ?zl1 ?_); (case zl1 => exact Nat.le_of_ble_eq_true rfl); intro p H' hp hs he)
  | ((with_reducible refine' z_gtup ?zl1 ?zl2 ?_); (case zl1 => walk_at "up"); (case zl2 => exact rfl))
  | with_reducible refine z_bk ?_
  | with_reducible refine z_ct ?_
  | with_reducible refine z_break ?_
  | with_reducible refine z_cont ?_
  | with_reducible refine z_retN ?_
  | with_reducible refine z_nn ?_
  | with_reducible refine z_mk ?_
  | with_reducible refine z_gn ?_
  | with_reducible refine z_gcons ?_
  | with_reducible refine z_gnil ?_
  | with_reducible refine z_mt ?_
  | with_reducible refine z_mko ?_
  | with_reducible refine z_for2 ?_
  | with_reducible refine z_ownI ?_
  | ((with_reducible refine' z_lenL ?zl1 ?_); (case zl1 => walk_at "up"))
  | ((with_reducible refine' z_ixT ?zl1 ?zl2 ?_); (case zl1 => walk_at "up"); (case zl2 => exact rfl))
  | ((with_reducible refine' z_mulL ?zl1 ?zl2 ?_); (case zl1 => omega); (case zl2 => omega))
  | ((with_reducible refine' z_mulR ?zl1 ?zl2 ?_); (case zl1 => omega); (case zl2 => omega))
  | ((with_reducible refine' z_divS ?zl1 ?zl2 ?_); (case zl1 => omega); (case zl2 => omega))
  | ((with_reducible refine' z_mulW ?zl1 ?zl2 ?zl3 ?zl4 ?_); (case zl1 => omega); (case zl2 => omega); (case zl3 => omega); (case zl4 => omega))
  | ((with_reducible refine' z_divW ?zl1 ?zl2 ?_); (case zl1 => omega); (case zl2 => omega)))
local macro_rules | `(tactic| walk_at "zz") => `(tactic| repeat (walk_at "z"))
local macro_rules | `(tactic| walk_at "z") => `(tactic| with_reducible refine z_lstN ?_)
local macro_rules | `(tactic| walk_at "z") => `(tactic| with_reducible refine z_p6 ?_)
local macro_rules | `(tactic| walk_at "z") => `(tactic| with_reducible refine z_p12 ?_)
local macro_rules | `(tactic| walk_at "z") => `(tactic| with_reducible refine z_p13 ?_)
local macro_rules | `(tactic| walk_at "z") => `(tactic| with_reducible refine z_calln ?_)
local macro_rules | `(tactic| walk_at "z") => `(tactic| with_reducible refine z_xfS ?_)
local macro_rules | `(tactic| walk_at "z") => `(tactic| with_reducible refine z_lcS ?_)
local macro_rules | `(tactic| walk_at "z") => `(tactic| with_reducible refine z_lcRS ?_)
local macro_rules | `(tactic| walk_at "z") => `(tactic| with_reducible refine z_lcZS ?_)
local macro_rules | `(tactic| walk_at "z") => `(tactic| with_reducible refine z_foS ?_)
local macro_rules | `(tactic| walk_at "z") => `(tactic| with_reducible refine z_for1 ?_)
local macro_rules | `(tactic| walk_at "z") => `(tactic| with_reducible refine z_tsl ?_)
local macro_rules | `(tactic| walk_at "z") => `(tactic| with_reducible refine z_np ?_)
local macro_rules | `(tactic| walk_at "z") => `(tactic| with_reducible refine z_pt ?_)
local macro_rules | `(tactic| walk_at "z") => `(tactic| with_reducible refine z_pti ?_)
local macro_rules | `(tactic| walk_at "z") => `(tactic| with_reducible refine z_catI ?_)
local macro_rules | `(tactic| walk_at "z") => `(tactic| with_reducible refine z_isNI ?_)
local macro_rules | `(tactic| walk_at "z") => `(tactic| with_reducible refine z_isNN ?_)
local macro_rules | `(tactic| walk_at "z") => `(tactic| with_reducible refine z_notNI ?_)
local macro_rules | `(tactic| walk_at "z") => `(tactic| with_reducible refine z_notNN ?_)
local macro_rules | `(tactic| walk_at "z") => `(tactic| with_reducible refine z_gsub ?_)
local macro_rules | `(tactic| walk_at "z") => `(tactic| with_reducible refine z_isNb ?_)
local macro_rules | `(tactic| walk_at "z") => `(tactic| with_reducible refine z_notNb ?_)
local macro_rules | `(tactic| walk_at "z") => `(tactic| ((with_reducible refine' z_nlR ?zl1 ?_); (case zl1 => exact Nat.le_of_ble_eq_true rfl); intro p H' hp hs he))
local macro_rules | `(tactic| walk_at "z") => `(tactic| ((with_reducible refine' z_repR ?zl1 ?zl2 ?_); (case zl1 => omega); (case zl2 => omega)))
local macro_rules | `(tactic| walk_at "z") => `(tactic| ((with_reducible refine' z_repL ?zl1 ?zl2 ?_); (case zl1 => omega); (case zl2 => omega)))
local macro_rules | `(tactic| walk_at "z") => `(tactic| ((with_reducible refine' z_lenLst ?zl1 ?_); (case zl1 => walk_at "up")))
local macro_rules | `(tactic| walk_at "z") => `(tactic| ((with_reducible refine' z_cat ?zl1 ?zl2 ?zl3 ?_); (case zl1 => walk_at "up"); (case zl2 => walk_at "up"); (case zl3 => (simp only [List.length_map, List.length_cons, List.length_nil, List.length_append, List.length_replicate]; omega)); intro p H' hp hs he))
local macro_rules | `(tactic| walk_at "z") => `(tactic| with_reducible refine z_sfl ?_)
local macro_rules | `(tactic| walk_at "z") => `(tactic| with_reducible refine z_lcES ?_)
local macro_rules | `(tactic| walk_at "z") => `(tactic| with_reducible refine z_lcMS ?_)
local macro_rules | `(tactic| walk_at "z") => `(tactic| with_reducible refine z_foES ?_)
local macro_rules | `(tactic| walk_at "z") => `(tactic| with_reducible refine z_fo3S ?_)
local macro_rules | `(tactic| walk_at "z") => `(tactic| with_reducible refine z_sta ?_)
local macro_rules | `(tactic| walk_at "z") => `(tactic| with_reducible refine z_sta1 ?_)
local macro_rules | `(tactic| walk_at "z") => `(tactic| with_reducible refine z_lcTS ?_)
local macro_rules | `(tactic| walk_at "z") => `(tactic| with_reducible refine z_foTS ?_)
local macro_rules | `(tactic| walk_at "z") => `(tactic| ((with_reducible refine' z_fldt ?zc1 ?zc2 ?zl1 ?zl2 ?_); (case zc1 => exact Lw.cl_Ratio (by assumption)); (case zc2 => exact Lw.na_Ratio_top (by assumption)); (case zl1 => exact rfl); (case zl2 => walk_at "up")))
local macro_rules | `(tactic| walk_at "z") => `(tactic| ((with_reducible refine' z_fldb ?zc1 ?zc2 ?zl1 ?zl2 ?_); (case zc1 => exact Lw.cl_Ratio (by assumption)); (case zc2 => exact Lw.na_Ratio_bottom (by assumption)); (case zl1 => exact rfl); (case zl2 => walk_at "up")))
local macro_rules | `(tactic| walk_at "z") => `(tactic| ((with_reducible refine' z_fldG ?zc1 ?zc2 ?zl0 ?zl1 ?zl2 ?_); (case zc1 => exact Lw.cl_Poly (by assumption)); (case zc2 => exact Lw.na_Poly_numbers (by assumption)); (case zl0 => exact rfl); (case zl1 => walk_at "up"); (case zl2 => exact lkA)))
local macro_rules | `(tactic| walk_at "z") => `(tactic| ((with_reducible refine' z_fldG ?zc1 ?zc2 ?zl0 ?zl1 ?zl2 ?_); (case zc1 => exact Lw.cl_Poly (by assumption)); (case zc2 => exact Lw.na_Poly_over (by assumption)); (case zl0 => exact rfl); (case zl1 => walk_at "up"); (case zl2 => exact lkO)))
local macro_rules | `(tactic| walk_at "z") => `(tactic| ((with_reducible refine' z_fldG ?zc1 ?zc2 ?zl0 ?zl1 ?zl2 ?_); (case zc1 => exact Lw.cl_Poly (by assumption)); (case zc2 => exact Lw.na_Poly_degree (by assumption)); (case zl0 => exact rfl); (case zl1 => walk_at "up"); (case zl2 => exact lkD)))
local macro_rules | `(tactic| walk_at "z") => `(tactic| ((with_reducible refine' z_isR ?zl1 ?zl2 ?zl3 ?_); (case zl1 => exact Lw.in_Ratio (by assumption)); (case zl2 => exact Lw.kt_Ratio_Ratio (by assumption)); (case zl3 => walk_at "up")))
local macro_rules | `(tactic| walk_at "z") => `(tactic| with_reducible refine z_revL ?_)
theorem same30q {H H1 H2 : Hp} (h : Same H1 H2) (e : Same H H1) : Same H H2 := e.trans h
local macro_rules | `(tactic| walk_at "sm") => `(tactic| first
  | assumption
  | exact fun _ _ h => h
  | (refine' same30q (by assumption) ?zsm; case zsm => walk_at "sm"))
local macro_rules | `(tactic| walk_at "bt") => `(tactic| first
  | assumption
  | exact fun _ _ _ h => h
  | (refine' But.trans ?zsm (by assumption); case zsm => walk_at "bt")
  | (refine' But.trans ?zsm (But.of (by assumption)); case zsm => walk_at "bt"))

open S31 (cf pb pb_succ)
open S30
def fs_fell (K : Frag) : F3 := fun a c e H Q _ => ∃ (p r s : Addr) (n : Nat) (P : Rat → Rat) (v w : Rat), a = .ref p ∧ c = .ref r ∧ e = .ref s ∧ PQ K H p n 20 P ∧ n ≤ 13 ∧ IsV K H r v 12 ∧ IsV K H s w 12 ∧ ¬ v < w ∧ ∀ t H', Same H H' → H' t = some (.tup [.ref r, .ref s]) → Q (.ref t) H'
def fs_crossed (K : Frag) : F3 := fun a c e H Q _ => ∃ (p lo hi : Addr) (n : Nat) (P : Rat → Rat) (l0 l1 h0 h1 : Int), a = .ref p ∧ c = .ref lo ∧ e = .ref hi ∧ PQ K H p n 20 P ∧ n ≤ 13 ∧ H lo = some (.tup [.int l0, .int l1]) ∧ H hi = some (.tup [.int h0, .int h1]) ∧ Bits 12 l0 ∧ Bits 12 l1 ∧ Bits 12 h0 ∧ Bits 12 h1 ∧ 0 < l1 ∧ 0 < h1 ∧ ¬ (l0 : Rat) / l1 < (h0 : Rat) / h1 ∧ ∀ H', Same H H' → Q (.bl true) H'
def fs_size (K : Frag) : F2 := fun a c H Q _ => ∃ (p : Addr) (v : Rat) (m : Int), a = .ref p ∧ c = .int m ∧ IsV K H p v 12 ∧ (m = 0 ∨ m = 61) ∧ ∀ H', Same H H' → Q (.int m) H'
def fs_value : F2 := fun a b H Q _ => ∃ (p q e : Addr) (ns : List Int) (o u w : Int) (n : Nat), a = .ref p ∧ b = .ref e ∧ H p = some (.tup [.ref q, .int o]) ∧ H q = some (.lst (ns.map V.int)) ∧ H e = some (.tup [.int u, .int w]) ∧ ns.length = n ∧ 1 ≤ n ∧ n ≤ 13 ∧ 0 < o ∧ Bits 30 o ∧ (∀ k, Bits 20 (cf ns k)) ∧ Bits 30 u ∧ Bits 30 w ∧ 0 < w ∧
  ∀ t H' s d, Same H H' → H' t = some (.tup [.int s, .int d]) → 0 < d → Bits 2000 s → Bits 2000 d → (s : Rat) = S30.E (cr ns o) ((u : Rat) / w) n * (d : Rat) → Q (.ref t) H'
theorem z_foIs {K : Frag} {H : Hp} {p : Addr} {u w : Int} {B : Nat} (hr : IsR K H p (rt u w) (rb u w)) (hw : 0 < w) (hu : Bits B u) (hb : Bits B w) : IsV K H p ((u : Rat) / w) B :=
  ⟨_, _, hr, (rt_spec hw).1, rt_bits hw hu, rb_bits hw hb, rt_val hw (by
    have := ne_cast (show w ≠ 0 by omega)
    grind)⟩
theorem u_mkR {K : Frag} {H : Hp} {Q : VK} {E : XK} {n d : Int} (hd : d ≠ 0) (hb : Bits 8999 d) (k : ∀ p H', Same H H' → IsR K H' p (rt n d) (rb n d) → Q (.ref p) H') : zMk (He.ga K "Ratio") (sp3 (fs_rinit K)) [] E [.int n, .int d] H Q := z_mkR hd hb k
def fs_low2 : F2 := fun a b H Q _ => ∃ (p : Addr) (ns : List Int) (o : Int), a = .ref p ∧ b = .int o ∧ H p = some (.lst (ns.map V.int)) ∧ ns.length ≤ 16777216 ∧ 1 ≤ o ∧ Bits 8999 o ∧
  ∀ t q H' ls o', Same H H' → H' t = some (.tup [.ref q, .int o']) → H' q = some (.lst (ls.map V.int)) → LowT ns o ls o' → H q = none → Q (.ref t) H'
local macro_rules | `(tactic| walk_at "up") => `(tactic| first
  | assumption
  | (with_reducible refine' IsPool.mono (by assumption) ?zup; case zup => walk_at "up")
  | (with_reducible refine' IsR.mono (by assumption) ?zup; case zup => walk_at "up")
  | (with_reducible refine' IsV.mono (by assumption) ?zup; case zup => walk_at "up")
  | (with_reducible refine' IsQ.mono (by assumption) ?zup; case zup => walk_at "up")
  | (with_reducible refine' PQ.mono (by assumption) ?zup; case zup => walk_at "up")
  | (with_reducible refine' RL.mono (by assumption) ?zup; case zup => walk_at "up")
  | (with_reducible refine' PL.mono (by assumption) ?zup; case zup => walk_at "up")
  | (with_reducible refine' RB.mono (by assumption) ?zup; case zup => walk_at "up")
  | (with_reducible refine' PB.mono (by assumption) ?zup; case zup => walk_at "up")
  | (with_reducible refine' Rows.mono (by assumption) ?zup; case zup => walk_at "up")
  | (with_reducible refine' Same.at (by assumption) ?zup; case zup => walk_at "up")
  | (with_reducible refine' But.at (by assumption) ?zne ?zup; (case zne => (first | assumption | exact Ne.symm (by assumption))); (case zup => walk_at "up"))
  | (with_reducible refine' IsPool.of ?zup; case zup => walk_at "up")
  | fail)
local macro_rules | `(tactic| walk_at "z") => `(tactic| with_reducible refine z_bm ?_)
section
variable {P : Program} {w : World} {K : Frag} {mg : Str → Option Value} {base : Heap}
theorem ok_law_fell (L : Lw K mg) {fd : FuncData} (F : FunD K "_law_fell" "_law_fell" (defArgs s_law_fell) (defBody s_law_fell) (defScope s_law_fell) (df_law_fell.dvs K) (df_law_fell.kws K) (He.fAd K ("_law_fell", none)) fd) : FnOk P w K mg base (L2N.CX P w) 10 (He.fAd K ("_law_fell", none)) fd (["poly", "low", "high"] : List Str) (sp3 (fs_fell K)) := by
  refine FunD.ok F sc_law_fell len3 (fun cdv A outer s H vs Q E hr h => ?_)
  obtain ⟨a, b, c, rfl, h⟩ := h
  refine ⟨_, (pss_cons (L2N.ps_try_as (i := 3) rfl rfl sc_law_fell.nd rfl rfl ⟨rfl, by decide, Or.inl L.g_NoughtError⟩ (L2N.takes_of rfl rfl rfl rfl)
    (fun W pn xe tk po => (pss_one (ps_expr (pe_c (c_corner_numbers (K := K) L) hr (by decide) tk (pa_cons (pv 0) (pa_cons (pv 1) (pa_cons (pv 2) pa_nil)))))))
    (fun a oe cls dd pn hz hf => (pss_one (ps_if (PW.pt (pw_and (pt_val (pe_callB (call_isEx L.ec_Crossed (L2N.Zn.zc hz) hf) (by rfl) L.f_isinstance (by decide +kernel) (pa_cons (pv 3) (pa_cons (pe_cls L.g_Crossed) pa_nil)))) (pw_and1 (pt_not (pt_val (pe_callB (call_isEx L.ec_Crossed (L2N.Zn.zc hz) hf) (by rfl) L.f_isinstance (by decide +kernel) (pa_cons (pv 3) (pa_cons (pe_cls L.g_BadSize) pa_nil)))))))) (pss_one (ps_ret (pe_tup (pa_cons (pe_xf L.xf_Crossed L.na_Crossed_low (L2N.Zn.zc hz) hf (pv 3)) (pa_cons (pe_xf L.xf_Crossed L.na_Crossed_high (L2N.Zn.zc hz) hf (pv 3)) pa_nil))))) pss_nil))))
    (pss_one (ps_ret pe_non))), ?_⟩
  obtain ⟨p, r, s, n, P, v, w, rfl, rfl, rfl, hp, n13, hv, hw, no, k⟩ := h
  walk_at "zz"
  refine ⟨_, _, _, rfl, p, r, s, n, P, v, w, rfl, rfl, rfl, hp, n13, hv, hw, fun z => absurd z no, fun _ d H1 s1 hd => ?_⟩
  refine z_as L.xm_Crossed_NoughtError (fun a ha => ?_)
  walk_at "zz"
  refine z_isX hd L.kt_Crossed_Crossed ?_
  walk_at "zz"
  refine z_isX hd L.kt_Crossed_BadSize ?_
  walk_at "zz"
  refine z_xf hd (look2b) ?_
  walk_at "zz"
  refine z_xf hd (look2a) ?_
  walk_at "zz"
  exact k _ _ (by walk_at "sm") (by assumption)
theorem c_law_fell (L : Lw K mg) : Cal P w K mg base 10 "_law_fell" (sp3 (fs_fell K)) [] := by
  obtain ⟨fd, F⟩ := L.d_law_fell
  exact ⟨⟨_, fd, ["poly", "low", "high"], [], ok_law_fell L F, L.g_law_fell, F.kp, F.bindsN (fun _ _ _ _ _ _ us hl => match us, hl with | [_, _, _], _ => rfl), .nil⟩⟩
theorem ok_law_crossed (L : Lw K mg) {fd : FuncData} (F : FunD K "_law_crossed" "_law_crossed" (defArgs s_law_crossed) (defBody s_law_crossed) (defScope s_law_crossed) (df_law_crossed.dvs K) (df_law_crossed.kws K) (He.fAd K ("_law_crossed", none)) fd) : FnOk P w K mg base (L2N.CX P w) 11 (He.fAd K ("_law_crossed", none)) fd (["poly", "low", "high"] : List Str) (sp3 (fs_crossed K)) := by
  refine FunD.ok F sc_law_crossed len3 (fun cdv A outer s H vs Q E hr h => ?_)
  obtain ⟨a, b, c, rfl, h⟩ := h
  refine ⟨_, (pss_cons (ps_set (i := 3) sc_law_crossed.nd rfl (by first | exact Or.inl rfl | exact Or.inr rfl) (pe_c (c_law_fell (K := K) L) hr (by decide) (L2N.takes_of rfl rfl rfl rfl) (pa_cons (pv 0) (pa_cons (pe_mk (c_RatioD_initD (K := K) L) hr (by decide) (L2N.takes_of rfl rfl rfl rfl) (pa_cons (pe_ix (ix_seqK (K := K) rfl) (pv 1) pe_int (fun _ _ => rfl)) (pa_cons (pe_ix (ix_seqK (K := K) rfl) (pv 1) pe_int (fun _ _ => rfl)) pa_nil))) (pa_cons (pe_mk (c_RatioD_initD (K := K) L) hr (by decide) (L2N.takes_of rfl rfl rfl rfl) (pa_cons (pe_ix (ix_seqK (K := K) rfl) (pv 2) pe_int (fun _ _ => rfl)) (pa_cons (pe_ix (ix_seqK (K := K) rfl) (pv 2) pe_int (fun _ _ => rfl)) pa_nil))) pa_nil)))))
    (pss_cons (ps_if (PW.pt (pw_or (pt_cmpR o_isN (pv 3) pe_non (nomark _)) (pw_or1 (pt_not (pt_val (pe_c (c_law_is (K := K) L) hr (by decide) (L2N.takes_of rfl rfl rfl rfl) (pa_cons (pe_ix (ix_seqK (K := K) rfl) (pv 3) pe_int (fun _ _ => rfl)) (pa_cons (pe_ix (ix_seqK (K := K) rfl) (pv 1) pe_int (fun _ _ => rfl)) (pa_cons (pe_ix (ix_seqK (K := K) rfl) (pv 1) pe_int (fun _ _ => rfl)) pa_nil))))))))) (pss_one (ps_ret pe_bl)) pss_nil)
    (pss_one (ps_ret (pe_c (c_law_is (K := K) L) hr (by decide) (L2N.takes_of rfl rfl rfl rfl) (pa_cons (pe_ix (ix_seqK (K := K) rfl) (pv 3) pe_int (fun _ _ => rfl)) (pa_cons (pe_ix (ix_seqK (K := K) rfl) (pv 2) pe_int (fun _ _ => rfl)) (pa_cons (pe_ix (ix_seqK (K := K) rfl) (pv 2) pe_int (fun _ _ => rfl)) pa_nil)))))))), ?_⟩
  obtain ⟨p, lo, hi, n, P, l0, l1, h0, h1, rfl, rfl, rfl, hp, n13, hlo, hhi, bl0, bl1, bh0, bh1, l1p, h1p, no, k⟩ := h
  walk_at "zz"
  refine u_mkR (by omega) (bl1.up (by decide)) fun r H1 s1 hr => ?_
  have hhi1 := s1 _ _ hhi
  have hv := z_foIs hr l1p bl0 bl1
  walk_at "zz"
  refine u_mkR (by omega) (bh1.up (by decide)) fun s H2 s2 hs => ?_
  have hw := z_foIs hs h1p bh0 bh1
  walk_at "zz"
  refine ⟨_, _, _, rfl, p, r, s, n, P, _, _, rfl, rfl, rfl, (hp.mono s1).mono s2, n13, hv.mono s2, hw, no, fun t H3 s3 et => ?_⟩
  have hlo3 := s3 _ _ (s2 _ _ (s1 _ _ hlo))
  have hhi3 := s3 _ _ (s2 _ _ hhi1)
  walk_at "zz"
  have e1 : (l0 : Rat) = (l0 : Rat) / l1 * (l1 : Rat) := by
    have := ne_cast (show l1 ≠ 0 by omega)
    grind
  have e2 : (h0 : Rat) = (h0 : Rat) / h1 * (h1 : Rat) := by
    have := ne_cast (show h1 ≠ 0 by omega)
    grind
  refine ⟨_, _, _, rfl, r, _, 12, l0, l1, rfl, rfl, rfl, (hv.mono s2).mono s3, bl0, bl1, by decide, l1p, e1, ?_⟩
  walk_at "zz"
  refine ⟨_, _, _, rfl, s, _, 12, h0, h1, rfl, rfl, rfl, hw.mono s3, bh0, bh1, by decide, h1p, e2, ?_⟩
  exact k H3 ((s1.trans s2).trans s3)
theorem c_law_crossed (L : Lw K mg) : Cal P w K mg base 11 "_law_crossed" (sp3 (fs_crossed K)) [] := by
  obtain ⟨fd, F⟩ := L.d_law_crossed
  exact ⟨⟨_, fd, ["poly", "low", "high"], [], ok_law_crossed L F, L.g_law_crossed, F.kp, F.bindsN (fun _ _ _ _ _ _ us hl => match us, hl with | [_, _, _], _ => rfl), .nil⟩⟩
theorem ok_law_size (L : Lw K mg) {fd : FuncData} (F : FunD K "_law_size" "_law_size" (defArgs s_law_size) (defBody s_law_size) (defScope s_law_size) (df_law_size.dvs K) (df_law_size.kws K) (He.fAd K ("_law_size", none)) fd) : FnOk P w K mg base (L2N.CX P w) 5 (He.fAd K ("_law_size", none)) fd (["low", "many"] : List Str) (sp2 (fs_size K)) := by
  refine FunD.ok F sc_law_size len2 (fun cdv A outer s H vs Q E hr h => ?_)
  obtain ⟨a, b, rfl, h⟩ := h
  refine ⟨_, (pss_cons (L2N.ps_try_as (i := 2) rfl rfl sc_law_size.nd rfl rfl ⟨rfl, by decide, Or.inl L.g_NoughtError⟩ (L2N.takes_of rfl rfl rfl rfl)
    (fun W pn xe tk po => (pss_one (ps_expr (pe_c (c_halved (K := K) L) hr (by decide) tk (pa_cons (pe_op o_rep (pe_lst (pa_cons (pv 0) pa_nil)) (pv 1)) pa_nil)))))
    (fun a oe cls dd pn hz hf => (pss_one (ps_if (PW.pt (pw_and (pt_val (pe_callB (call_isEx L.ec_BadSize (L2N.Zn.zc hz) hf) (by rfl) L.f_isinstance (by decide +kernel) (pa_cons (pv 2) (pa_cons (pe_cls L.g_BadSize) pa_nil)))) (pw_and1 (pt_not (pt_val (pe_callB (call_isEx L.ec_BadSize (L2N.Zn.zc hz) hf) (by rfl) L.f_isinstance (by decide +kernel) (pa_cons (pv 2) (pa_cons (pe_cls L.g_Crossed) pa_nil)))))))) (pss_one (ps_ret (pe_ch (ch_law_whole (K := K) L) (room_suite hr _) (by decide) (hot_suite hz hf) (pa_cons (pe_xf L.xf_BadSize L.na_BadSize_size (L2N.Zn.zc hz) hf (pv 2)) pa_nil)))) pss_nil))))
    (pss_one (ps_ret (pe_un o_neg pe_int)))), ?_⟩
  obtain ⟨p, v, m, rfl, rfl, hv, hm, k⟩ := h
  walk_at "zz"
  rename_i l0 H0 hl0 s0 e0
  refine z_rep1 e0 (by omega) (by omega) (fun l H1 hl s1 el => ?_)
  have hv1 := (hv.mono s0).mono s1
  obtain ⟨t, b, hr, b0, tb, bb, e⟩ := hv1
  have hRB : RB K H1 l m.toNat (fun _ => v) 12 12 := ⟨_, el, by simp, fun k x ex => by
    have : x = .ref p := by
      rw [List.getElem?_replicate] at ex
      split at ex
      · exact (Option.some.inj ex).symm
      · cases ex
    exact ⟨p, t, b, this, hr, b0, tb, bb, e⟩⟩
  walk_at "zz"
  refine ⟨_, rfl, l, m.toNat, 12, 12, _, rfl, hRB, by decide, by decide, by omega, fun z => absurd z (by omega), fun _ d H2 s2 hd => ?_⟩
  refine z_as L.xm_BadSize_NoughtError (fun a ha => ?_)
  walk_at "zz"
  refine z_isX hd L.kt_BadSize_BadSize ?_
  walk_at "zz"
  refine z_isX hd L.kt_BadSize_Crossed ?_
  walk_at "zz"
  refine z_xf hd lkA ?_
  walk_at "zz"
  refine ⟨_, rfl, _, rfl, ?_⟩
  rw [show ((m.toNat : Nat) : Int) = m by omega]
  walk_at "zz"
  exact k _ ((s0.trans s1).trans s2)
theorem c_law_size (L : Lw K mg) : Cal P w K mg base 5 "_law_size" (sp2 (fs_size K)) [] := by
  obtain ⟨fd, F⟩ := L.d_law_size
  exact ⟨⟨_, fd, ["low", "many"], [], ok_law_size L F, L.g_law_size, F.kp, F.bindsN (fun _ _ _ _ _ _ us hl => match us, hl with | [_, _], _ => rfl), .nil⟩⟩
theorem ok_law_value (L : Lw K mg) {fd : FuncData} (F : FunD K "_law_value" "_law_value" (defArgs s_law_value) (defBody s_law_value) (defScope s_law_value) (df_law_value.dvs K) (df_law_value.kws K) (He.fAd K ("_law_value", none)) fd) : FnOk P w K mg base (L2N.CX P w) 3 (He.fAd K ("_law_value", none)) fd (["p", "one"] : List Str) (sp2 fs_value) := by
  refine FunD.ok F sc_law_value len2 (fun cdv A outer s H vs Q E hr h => ?_)
  obtain ⟨a, b, rfl, h⟩ := h
  refine ⟨_, (pss_cons (ps_asg (pe_c (c_law_along (K := K) L) hr (by decide) (L2N.takes_of rfl rfl rfl rfl) (pa_cons (pv 0) (pa_cons (pe_ix (ix_seqK (K := K) rfl) (pv 1) pe_int (fun _ _ => rfl)) (pa_cons pe_int (pa_cons (pe_ix (ix_seqK (K := K) rfl) (pv 1) pe_int (fun _ _ => rfl)) pa_nil))))) (pg_tup (by rfl) (pgs_cons (pg_name (i := 2) sc_law_value.nd rfl (by first | exact Or.inl rfl | exact Or.inr rfl)) (pgs_cons (pg_name (i := 3) sc_law_value.nd rfl (by first | exact Or.inl rfl | exact Or.inr rfl)) pgs_nil))))
    (pss_one (ps_ret (pe_tup (pa_cons (pe_callB (callK rSum (K := K) rfl (cr_sum rfl)) (by rfl) L.f_sum (by decide +kernel) (pa_cons (pe_slice (slK rSlL (K := K) rfl sl_list) (pv 2) po_none (po_some pe_int)) pa_nil)) (pa_cons (pv 3) pa_nil)))))), ?_⟩
  obtain ⟨p, q, e, ns, o, u, w, n, rfl, rfl, hp, hq, he, hl, n1, n13, o0, ob, nb, ub, wb, w0, k⟩ := h
  walk_at "zz"
  refine ⟨_, _, _, _, rfl, p, q, ns, o, u, 0, w, n, 20, rfl, rfl, rfl, rfl, hp, hq, hl, n13, o0, ob, nb, by decide, ub, Bits.zero, wb, w0, fun t mv H1 ts s1 et emv lts bts ev => ?_⟩
  walk_at "zz"
  refine z_sll emv (fun S H2 hS s2 e2 => ?_)
  rw [show (1 : Int) = ((1 : Nat) : Int) from rfl, cut_hi, ← List.map_take] at e2
  refine ⟨_, _, rfl, SqL.of e2, ?_⟩
  have es : (ts.take 1).sum = cf ts 0 := by
    cases ts with
    | nil => rfl
    | cons y ys => simp [cf]
  rw [es]
  have ov0 : 0 < o * w ^ (n - 1) := Int.mul_pos o0 (Int.pow_pos w0)
  have ovb : Bits 2000 (o * w ^ (n - 1)) := Bits.up (ob.mul (Bits.pow wb (n - 1))) (by omega)
  walk_at "zz"
  refine k _ _ _ _ (by walk_at "sm") (by assumption) ov0 ((bts 0).up (by decide)) ovb ?_
  have q := ev 0
  obtain ⟨m, rfl⟩ : ∃ m, n = m + 1 := ⟨n - 1, by omega⟩
  rw [E_at0] at q
  have q2 : (u : Rat) / w + ((0 : Int) : Rat) / w * 0 = (u : Rat) / w := by
    rw [show ((0 : Int) : Rat) = 0 from rfl]
    grind
  rw [q2] at q
  rw [← q]
  have := ne_cast (show o * w ^ (m + 1 - 1) ≠ 0 by omega)
  show (cf ts 0 : Rat) = (cf ts 0 : Rat) / _ * _
  grind
theorem c_law_value (L : Lw K mg) : Cal P w K mg base 3 "_law_value" (sp2 fs_value) [] := by
  obtain ⟨fd, F⟩ := L.d_law_value
  exact ⟨⟨_, fd, ["p", "one"], [], ok_law_value L F, L.g_law_value, F.kp, F.bindsN (fun _ _ _ _ _ _ us hl => match us, hl with | [_, _], _ => rfl), .nil⟩⟩
end
end T

set_option maxHeartbeats 4000000
namespace T
open PySem PySem.Spec PyProof.Rows L2 Z
/-! the readings' steps, as one word: walk_at "z" (one step), "zz" (as far as it goes), "up" (a fact carried here) -/
local macro_rules | `(tactic| walk_at "up") => `(tactic| first
  | assumption
  | (refine' IsR.mono (by assumption) ?zup; case zup => walk_at "up")
  | (refine' IsE.mono (by assumption) ?zup; case zup => walk_at "up")
  | (refine' Same.at (by assumption) ?zup; case zup => walk_at "up")
  | (refine' SqL.of ?zup; case zup => walk_at "up")
  | (refine' L2.Same.seq (by assumption) ?zup; case zup => walk_at "up"))
local macro_rules | `(tactic| walk_at "z") => `(tactic| first
  | ((with_reducible refine' z_var ?zvh ?_); (case zvh => exact rfl))
  | with_reducible refine z_c ?_
  | with_reducible refine z_cons ?_
  | with_reducible refine z_nil ?_
  | with_reducible refine z_op ?_
  | with_reducible refine z_nx ?_
  | with_reducible refine z_seq ?_
  | with_reducible refine z_asg ?_
  | with_reducible refine z_asgG ?_
  | with_reducible refine z_call ?_
  | with_reducible refine z_sq0 ?_
  | with_reducible refine z_sq1 ?_
  | with_reducible refine z_ifS ?_
  | with_reducible refine z_test ?_
  | with_reducible refine z_tb ?_
  | with_reducible refine z_bl ?_
  | with_reducible refine z_blI ?_
  | with_reducible refine z_ret ?_
  | with_reducible refine z_rt ?_
  | with_reducible refine z_T ?_
  | with_reducible refine z_F ?_
  | with_reducible refine z_add ?_
  | with_reducible refine z_sub ?_
  | with_reducible refine z_neg ?_
  | with_reducible refine z_un ?_
  | with_reducible refine z_eqI ?_
  | with_reducible refine z_neI ?_
  | with_reducible refine z_lt ?_
  | with_reducible refine z_le ?_
  | with_reducible refine z_gt ?_
  | with_reducible refine z_ge ?_
  | with_reducible refine z_not ?_
  | with_reducible refine z_and ?_
  | with_reducible refine z_or ?_
  | with_reducible refine z_andV ?_
  | with_reducible refine z_orV ?_
  | with_reducible refine z_notV ?_
  | with_reducible refine z_if ?_
  | with_reducible refine z_cb ?_
  | with_reducible refine z_int1 ?_
  | with_reducible refine z_intb ?_
  | with_reducible refine z_abs ?_
  | with_reducible refine z_gcd ?_
  | with_reducible refine z_isi_ii ?_
  | with_reducible refine z_isi_ib ?_
  | with_reducible refine z_next ?_
  | with_reducible refine z_drop ?_
  | with_reducible refine z_par ?_
  | with_reducible refine z_par2 ?_
  | with_reducible refine z_tupN ?_
  | with_reducible refine z_lstN ?_
  | ((with_reducible refine' z_nt ?zl1 ?_); (case zl1 => exact Nat.le_of_ble_eq_true rfl); intro p H' hp hs he)
  | ((with_reducible refine' z_gtup ?zl1 ?zl2 ?_); (case zl1 => walk_at "up"); (case zl2 => exact rfl))
  | with_reducible refine z_bk ?_
  | with_reducible refine z_ct ?_
  | with_reducible refine z_break ?_
  | with_reducible refine z_cont ?_
  | with_reducible refine z_retN ?_
  | with_reducible refine z_nn ?_
  | with_reducible refine z_mk ?_
  | with_reducible refine z_gn ?_
  | with_reducible refine z_gcons ?_
  | with_reducible refine z_gnil ?_
  | with_reducible refine z_mt ?_
  | with_reducible refine z_mko ?_
  | with_reducible refine z_for2 ?_
  | with_reducible refine z_ownI ?_
  | ((with_reducible refine' z_lenL ?zl1 ?_); (case zl1 => walk_at "up"))
  | ((with_reducible refine' z_ixT ?zl1 ?zl2 ?_); (case zl1 => walk_at "up"); (case zl2 => exact rfl))
  | ((with_reducible refine' z_mulL ?zl1 ?zl2 ?_); (case zl1 => omega); (case zl2 => omega))
  | ((with_reducible refine' z_mulR ?zl1 ?zl2 ?_); (case zl1 => omega); (case zl2 => omega))
  | ((with_reducible refine' z_divS ?zl1 ?zl2 ?_); (case zl1 => omega); (case zl2 => omega))
  | ((with_reducible refine' z_mulW ?zl1 ?zl2 ?zl3 ?zl4 ?_); (case zl1 => omega); (case zl2 => omega); (case zl3 => omega); (case zl4 => omega))
  | ((with_reducible refine' z_divW ?zl1 ?zl2 ?_); (case zl1 => omega); (case zl2 => omega)))
local macro_rules | `(tactic| walk_at "zz") => `(tactic| repeat (walk_at "z"))
local macro_rules | `(tactic| walk_at "z") => `(tactic| with_reducible refine z_lstN ?_)
local macro_rules | `(tactic| walk_at "z") => `(tactic| with_reducible refine z_p6 ?_)
local macro_rules | `(tactic| walk_at "z") => `(tactic| with_reducible refine z_p12 ?_)
local macro_rules | `(tactic| walk_at "z") => `(tactic| with_reducible refine z_p13 ?_)
local macro_rules | `(tactic| walk_at "z") => `(tactic| with_reducible refine z_calln ?_)
local macro_rules | `(tactic| walk_at "z") => `(tactic| with_reducible refine z_xfS ?_)
local macro_rules | `(tactic| walk_at "z") => `(tactic| with_reducible refine z_lcS ?_)
local macro_rules | `(tactic| walk_at "z") => `(tactic| with_reducible refine z_lcRS ?_)
local macro_rules | `(tactic| walk_at "z") => `(tactic| with_reducible refine z_lcZS ?_)
local macro_rules | `(tactic| walk_at "z") => `(tactic| with_reducible refine z_foS ?_)
local macro_rules | `(tactic| walk_at "z") => `(tactic| with_reducible refine z_for1 ?_)
local macro_rules | `(tactic| walk_at "z") => `(tactic| with_reducible refine z_tsl ?_)
local macro_rules | `(tactic| walk_at "z") => `(tactic| with_reducible refine z_np ?_)
local macro_rules | `(tactic| walk_at "z") => `(tactic| with_reducible refine z_pt ?_)
local macro_rules | `(tactic| walk_at "z") => `(tactic| with_reducible refine z_pti ?_)
local macro_rules | `(tactic| walk_at "z") => `(tactic| with_reducible refine z_catI ?_)
local macro_rules | `(tactic| walk_at "z") => `(tactic| with_reducible refine z_isNI ?_)
local macro_rules | `(tactic| walk_at "z") => `(tactic| with_reducible refine z_isNN ?_)
local macro_rules | `(tactic| walk_at "z") => `(tactic| with_reducible refine z_notNI ?_)
local macro_rules | `(tactic| walk_at "z") => `(tactic| with_reducible refine z_notNN ?_)
local macro_rules | `(tactic| walk_at "z") => `(tactic| with_reducible refine z_gsub ?_)
local macro_rules | `(tactic| walk_at "z") => `(tactic| with_reducible refine z_isNb ?_)
local macro_rules | `(tactic| walk_at "z") => `(tactic| with_reducible refine z_notNb ?_)
local macro_rules | `(tactic| walk_at "z") => `(tactic| ((with_reducible refine' z_nlR ?zl1 ?_); (case zl1 => exact Nat.le_of_ble_eq_true rfl); intro p H' hp hs he))
local macro_rules | `(tactic| walk_at "z") => `(tactic| ((with_reducible refine' z_repR ?zl1 ?zl2 ?_); (case zl1 => omega); (case zl2 => omega)))
local macro_rules | `(tactic| walk_at "z") => `(tactic| ((with_reducible refine' z_repL ?zl1 ?zl2 ?_); (case zl1 => omega); (case zl2 => omega)))
local macro_rules | `(tactic| walk_at "z") => `(tactic| ((with_reducible refine' z_lenLst ?zl1 ?_); (case zl1 => walk_at "up")))
local macro_rules | `(tactic| walk_at "z") => `(tactic| ((with_reducible refine' z_cat ?zl1 ?zl2 ?zl3 ?_); (case zl1 => walk_at "up"); (case zl2 => walk_at "up"); (case zl3 => (simp only [List.length_map, List.length_cons, List.length_nil, List.length_append, List.length_replicate]; omega)); intro p H' hp hs he))
local macro_rules | `(tactic| walk_at "z") => `(tactic| with_reducible refine z_sfl ?_)
local macro_rules | `(tactic| walk_at "z") => `(tactic| with_reducible refine z_lcES ?_)
local macro_rules | `(tactic| walk_at "z") => `(tactic| with_reducible refine z_lcMS ?_)
local macro_rules | `(tactic| walk_at "z") => `(tactic| with_reducible refine z_foES ?_)
local macro_rules | `(tactic| walk_at "z") => `(tactic| with_reducible refine z_fo3S ?_)
local macro_rules | `(tactic| walk_at "z") => `(tactic| with_reducible refine z_sta ?_)
local macro_rules | `(tactic| walk_at "z") => `(tactic| with_reducible refine z_sta1 ?_)
local macro_rules | `(tactic| walk_at "z") => `(tactic| with_reducible refine z_lcTS ?_)
local macro_rules | `(tactic| walk_at "z") => `(tactic| with_reducible refine z_foTS ?_)
local macro_rules | `(tactic| walk_at "z") => `(tactic| ((with_reducible refine' z_fldt ?zc1 ?zc2 ?zl1 ?zl2 ?_); (case zc1 => exact Lw.cl_Ratio (by assumption)); (case zc2 => exact Lw.na_Ratio_top (by assumption)); (case zl1 => exact rfl); (case zl2 => walk_at "up")))
local macro_rules | `(tactic| walk_at "z") => `(tactic| ((with_reducible refine' z_fldb ?zc1 ?zc2 ?zl1 ?zl2 ?_); (case zc1 => exact Lw.cl_Ratio (by assumption)); (case zc2 => exact Lw.na_Ratio_bottom (by assumption)); (case zl1 => exact rfl); (case zl2 => walk_at "up")))
local macro_rules | `(tactic| walk_at "z") => `(tactic| ((with_reducible refine' z_fldG ?zc1 ?zc2 ?zl0 ?zl1 ?zl2 ?_); (case zc1 => exact Lw.cl_Poly (by assumption)); (case zc2 => exact Lw.na_Poly_numbers (by assumption)); (case zl0 => exact rfl); (case zl1 => walk_at "up"); (case zl2 => exact lkA)))
local macro_rules | `(tactic| walk_at "z") => `(tactic| ((with_reducible refine' z_fldG ?zc1 ?zc2 ?zl0 ?zl1 ?zl2 ?_); (case zc1 => exact Lw.cl_Poly (by assumption)); (case zc2 => exact Lw.na_Poly_over (by assumption)); (case zl0 => exact rfl); (case zl1 => walk_at "up"); (case zl2 => exact lkO)))
local macro_rules | `(tactic| walk_at "z") => `(tactic| ((with_reducible refine' z_fldG ?zc1 ?zc2 ?zl0 ?zl1 ?zl2 ?_); (case zc1 => exact Lw.cl_Poly (by assumption)); (case zc2 => exact Lw.na_Poly_degree (by assumption)); (case zl0 => exact rfl); (case zl1 => walk_at "up"); (case zl2 => exact lkD)))
local macro_rules | `(tactic| walk_at "z") => `(tactic| ((with_reducible refine' z_isR ?zl1 ?zl2 ?zl3 ?_); (case zl1 => exact Lw.in_Ratio (by assumption)); (case zl2 => exact Lw.kt_Ratio_Ratio (by assumption)); (case zl3 => walk_at "up")))
local macro_rules | `(tactic| walk_at "z") => `(tactic| with_reducible refine z_revL ?_)
theorem same30r {H H1 H2 : Hp} (h : Same H1 H2) (e : Same H H1) : Same H H2 := e.trans h
local macro_rules | `(tactic| walk_at "sm") => `(tactic| first
  | assumption
  | exact fun _ _ h => h
  | (refine' same30r (by assumption) ?zsm; case zsm => walk_at "sm"))
local macro_rules | `(tactic| walk_at "bt") => `(tactic| first
  | assumption
  | exact fun _ _ _ h => h
  | (refine' But.trans ?zsm (by assumption); case zsm => walk_at "bt")
  | (refine' But.trans ?zsm (But.of (by assumption)); case zsm => walk_at "bt"))

open S31 (cf pb pb_succ)
open S30
theorem lowt_0 {ns : List Int} {o : Int} (ho : 0 < o) (hz : ∀ k, cf ns k = 0) : LowT ns o ((ns.take 0).map fun n => n / S31.gl o (ns.take 0)) (o / S31.gl o (ns.take 0)) := by
  have e : o / S31.gl o (ns.take 0) = 1 := Int.ediv_self (show o ≠ 0 by omega)
  rw [e]
  exact lowt_nil ho hz
local macro_rules | `(tactic| walk_at "up") => `(tactic| first
  | assumption
  | (with_reducible refine' IsPool.mono (by assumption) ?zup; case zup => walk_at "up")
  | (with_reducible refine' IsR.mono (by assumption) ?zup; case zup => walk_at "up")
  | (with_reducible refine' IsV.mono (by assumption) ?zup; case zup => walk_at "up")
  | (with_reducible refine' IsQ.mono (by assumption) ?zup; case zup => walk_at "up")
  | (with_reducible refine' PQ.mono (by assumption) ?zup; case zup => walk_at "up")
  | (with_reducible refine' RL.mono (by assumption) ?zup; case zup => walk_at "up")
  | (with_reducible refine' PL.mono (by assumption) ?zup; case zup => walk_at "up")
  | (with_reducible refine' RB.mono (by assumption) ?zup; case zup => walk_at "up")
  | (with_reducible refine' PB.mono (by assumption) ?zup; case zup => walk_at "up")
  | (with_reducible refine' Rows.mono (by assumption) ?zup; case zup => walk_at "up")
  | (with_reducible refine' Same.at (by assumption) ?zup; case zup => walk_at "up")
  | (with_reducible refine' But.at (by assumption) ?zne ?zup; (case zne => (first | assumption | exact Ne.symm (by assumption))); (case zup => walk_at "up"))
  | (with_reducible refine' IsPool.of ?zup; case zup => walk_at "up")
  | fail)
local macro_rules | `(tactic| walk_at "z") => `(tactic| with_reducible refine z_bm ?_)
section
variable {P : Program} {w : World} {K : Frag} {mg : Str → Option Value} {base : Heap}
theorem ok_law_low (L : Lw K mg) {fd : FuncData} (F : FunD K "_law_low" "_law_low" (defArgs s_law_low) (defBody s_law_low) (defScope s_law_low) (df_law_low.dvs K) (df_law_low.kws K) (He.fAd K ("_law_low", none)) fd) : FnOk P w K mg base (L2N.CX P w) 2 (He.fAd K ("_law_low", none)) fd (["nums", "over"] : List Str) (sp2 fs_low2) := by
  refine FunD.ok F sc_law_low len2 (fun cdv A outer s H vs Q E hr h => ?_)
  obtain ⟨a, b, rfl, h⟩ := h
  refine ⟨_, (pss_cons (ps_set (i := 2) sc_law_low.nd rfl (by first | exact Or.inl rfl | exact Or.inr rfl) (pe_callB (callK rLen1 (K := K) rfl o_len) (by rfl) L.f_len (by decide +kernel) (pa_cons (pv 0) pa_nil)))
    (pss_cons (ps_while (passes_of rfl) (PW.pt (pw_and (pt_cmpR o_gt (pv 2) pe_int (nomark _)) (pw_and1 (pt_cmpR op_eq (pe_ix (ix_seqK (K := K) rfl) (pv 0) (pe_op o_sub (pv 2) pe_int) (fun _ _ => rfl)) pe_int (nomark _))))) (pss_one (ps_set (i := 2) sc_law_low.nd rfl (by first | exact Or.inl rfl | exact Or.inr rfl) (pe_op o_sub (pv 2) pe_int))))
    (pss_cons (ps_set (i := 3) sc_law_low.nd rfl (by first | exact Or.inl rfl | exact Or.inr rfl) (pv 1))
    (pss_cons (ps_for (passes_of rfl) rfl (pi_listK (K := K) rfl (pe_slice (slK rSlL (K := K) rfl sl_list) (pv 0) po_none (po_some (pv 2)))) (pg_name (i := 4) sc_law_low.nd rfl (by first | exact Or.inl rfl | exact Or.inr rfl)) (pss_one (ps_set (i := 3) sc_law_low.nd rfl (by first | exact Or.inl rfl | exact Or.inr rfl) (pe_c (c_law_gcd (K := K) L) hr (by decide) (L2N.takes_of rfl rfl rfl rfl) (pa_cons (pv 3) (pa_cons (pv 4) pa_nil))))))
    (pss_cons (ps_setLc (i := 0) (own := [("one", 4)]) (g := (gName 4)) (tt := tYes) rfl sc_law_low.nd rfl rfl (sw_true rfl rfl rfl (by decide +kernel)) (pi_listK (K := K) rfl (pe_slice (slK rSlL (K := K) rfl sl_list) (pv 0) po_none (po_some (pv 2)))) (blkOk_by (N := ["nums", "over", "size", "both", "one"]) (sc := defScope s_law_low) (by decide +kernel)) (fun _ _ _ _ _ => pg_name (i := 4) sc_law_low.nd rfl (Or.inl rfl)) (fun _ _ _ _ _ => pts_nil) (fun _ _ _ _ _ => (pe_op o_div (pv 4) (pv 3))))
    (pss_one (ps_ret (pe_tup (pa_cons (pv 0) (pa_cons (pe_op o_div (pv 1) (pv 3)) pa_nil)))))))))), ?_⟩
  obtain ⟨p, ns, o, rfl, rfl, hp, hl, o1, o2, k⟩ := h
  walk_at "zz"
  refine ⟨fun m σ' H' => ∃ s : Nat, σ' = [some (.ref p), some (.int o), some (.int s), none, none] ∧ H = H' ∧ m = s ∧ s ≤ ns.length ∧ ∀ k, s ≤ k → S31.cf ns k = 0, ⟨_, ns.length, ?_, rfl, rfl, Nat.le_refl _, fun k hk => S31.cf_out hk⟩, ?_⟩
  · rw [List.length_map]
    rfl
  rintro m σ' H' ⟨sz, rfl, rfl, em, hs, hz⟩
  walk_at "zz"
  refine z_d2 (fun c => ?_) (fun c => ?_)
  · have hin : sz - 1 < ns.length := by omega
    walk_at "zz"
    refine z_ixcf (j := sz - 1) hp (by omega) hin ?_
    walk_at "zz"
    refine z_d2 (fun c2 => ?_) (fun c2 => ?_)
    · refine ⟨_, fun _ _ h => h, ?_⟩
      walk_at "zz"
      refine ⟨sz - 1, by omega, sz - 1, ?_, rfl, rfl, by omega, fun k hk => ?_⟩
      · have e : ((sz : Nat) : Int) - 1 = ((sz - 1 : Nat) : Int) := by omega
        rw [e]
        rfl
      · by_cases e : k = sz - 1
        · rw [e]
          exact c2
        · exact hz k (by omega)
    · obtain ⟨s, rfl⟩ : ∃ s, sz = s + 1 := ⟨sz - 1, by omega⟩
      rw [Nat.add_sub_cancel] at c2
      have lw := lowt_of (show 0 < o by omega) hs hz c2
      walk_at "zz"
      refine z_sll hp (fun p2 H2 hp2 s2 e2 => ?_)
      rw [cut_hi, ← List.map_take] at e2
      have gb := gl_bits (ns := ns.take (s + 1)) (show 0 < o by omega)
      have g0 := S31.gl_pos (c := o) (by omega) (ns.take (s + 1))
      refine z_foV e2 (fun k σ' H' => ∃ x, σ' = [some (.ref p), some (.int o), some (.int (((s + 1) : Nat) : Int)), some (.int (S31.gl o ((ns.take (s + 1)).take k))), x] ∧ H2 = H') ⟨none, by rw [List.take_zero]; rfl, rfl⟩ (fun k σ' H' z => by obtain ⟨x, _, rfl⟩ := z; exact e2) ?_ ?_
      · rintro k x σ' H' hx ⟨y, rfl, rfl⟩
        obtain ⟨hk, rfl⟩ := map_at hx
        walk_at "zz"
        refine u_gcd ?_
        walk_at "zz"
        refine ⟨some (.int (cf (ns.take (s + 1)) k)), ?_, rfl⟩
        rw [List.take_succ_eq_append_getElem hk, S31.gl_snoc, ← S31.cf_in hk]
        rfl
      · rintro σ' H' ⟨x, rfl, rfl⟩
        have el : (ns.take (s + 1)).take ((ns.take (s + 1)).map V.int).length = ns.take (s + 1) := by
          rw [List.length_map, List.take_length]
        rw [el]
        walk_at "zz"
        refine z_sll (s2 _ _ hp) (fun p3 H3 hp3 s3 e3 => ?_)
        rw [cut_hi, ← List.map_take] at e3
        refine z_lcI (fun n => V.int (n / S31.gl o (ns.take (s + 1)))) e3 (by rw [List.length_take]; omega) (fun n H4 N hn s4 c4 => ⟨rfl, ?_⟩) (fun D HD hD sD hl => ?_)
        · walk_at "zz"
          refine z_div g0.1 (Bits.le o2 gb) (by decide) (by decide) ?_
          exact c4 _ (fun _ _ h => h)
        · have hm : (ns.take (s + 1)).map (fun n => V.int (n / S31.gl o (ns.take (s + 1)))) = ((ns.take (s + 1)).map fun n => n / S31.gl o (ns.take (s + 1))).map V.int := by rw [List.map_map]; rfl
          rw [hm] at hl
          walk_at "zz"
          refine z_div g0.1 (Bits.le o2 gb) (by decide) (by decide) ?_
          walk_at "zz"
          exact k _ _ _ _ _ (by walk_at "sm") (by assumption) (by walk_at "up") lw (Same.none (by walk_at "sm") hD)
  · have s0 : sz = 0 := by omega
    subst s0
    have lw := lowt_0 (show 0 < o by omega) (fun k => hz k (Nat.zero_le _))
    walk_at "zz"
    refine z_sll hp (fun p2 H2 hp2 s2 e2 => ?_)
    rw [cut_hi, ← List.map_take] at e2
    have gb := gl_bits (ns := ns.take 0) (show 0 < o by omega)
    have g0 := S31.gl_pos (c := o) (by omega) (ns.take 0)
    refine z_foV e2 (fun k σ' H' => ∃ x, σ' = [some (.ref p), some (.int o), some (.int ((0 : Nat) : Int)), some (.int (S31.gl o ((ns.take 0).take k))), x] ∧ H2 = H') ⟨none, by rw [List.take_zero]; rfl, rfl⟩ (fun k σ' H' z => by obtain ⟨x, _, rfl⟩ := z; exact e2) ?_ ?_
    · rintro k x σ' H' hx ⟨y, rfl, rfl⟩
      obtain ⟨hk, rfl⟩ := map_at hx
      walk_at "zz"
      refine u_gcd ?_
      walk_at "zz"
      refine ⟨some (.int (cf (ns.take 0) k)), ?_, rfl⟩
      rw [List.take_succ_eq_append_getElem hk, S31.gl_snoc, ← S31.cf_in hk]
      rfl
    · rintro σ' H' ⟨x, rfl, rfl⟩
      have el : (ns.take 0).take ((ns.take 0).map V.int).length = ns.take 0 := by
        rw [List.length_map, List.take_length]
      rw [el]
      walk_at "zz"
      refine z_sll (s2 _ _ hp) (fun p3 H3 hp3 s3 e3 => ?_)
      rw [cut_hi, ← List.map_take] at e3
      refine z_lcI (fun n => V.int (n / S31.gl o (ns.take 0))) e3 (by rw [List.length_take]; omega) (fun n H4 N hn s4 c4 => ⟨rfl, ?_⟩) (fun D HD hD sD hl => ?_)
      · walk_at "zz"
        refine z_div g0.1 (Bits.le o2 gb) (by decide) (by decide) ?_
        exact c4 _ (fun _ _ h => h)
      · have hm : (ns.take 0).map (fun n => V.int (n / S31.gl o (ns.take 0))) = ((ns.take 0).map fun n => n / S31.gl o (ns.take 0)).map V.int := by rw [List.map_map]; rfl
        rw [hm] at hl
        walk_at "zz"
        refine z_div g0.1 (Bits.le o2 gb) (by decide) (by decide) ?_
        walk_at "zz"
        exact k _ _ _ _ _ (by walk_at "sm") (by assumption) (by walk_at "up") lw (Same.none (by walk_at "sm") hD)
theorem c_law_low (L : Lw K mg) : Cal P w K mg base 2 "_law_low" (sp2 fs_low2) [] := by
  obtain ⟨fd, F⟩ := L.d_law_low
  exact ⟨⟨_, fd, ["nums", "over"], [], ok_law_low L F, L.g_law_low, F.kp, F.bindsN (fun _ _ _ _ _ _ us hl => match us, hl with | [_, _], _ => rfl), .nil⟩⟩
end
/-- pairs, their sizes alone -/
def itX (B C : Nat) : Hp → V → Nat → Prop := fun H x k => ∃ (a : Addr) (t b : Int), x = .ref a ∧ H a = some (.tup [.int t, .int b]) ∧ 0 < b ∧ Bits B t ∧ Bits C b
theorem itX_mono {B C : Nat} : Mono (itX B C) := fun H H' x k s h => by
  obtain ⟨a, t, b, e, h, r⟩ := h
  exact ⟨a, t, b, e, s _ _ h (fun _ z => nomatch z), r⟩
theorem SameN.but {H H' : Hp} {p : Addr} (e : But p H H') (hP : IsPool H p) : SameN H H' := fun a o h n => e a o (fun z => by
  obtain ⟨ns, hn⟩ := hP
  rw [z, hn] at h
  exact n _ (Option.some.inj h).symm) h
theorem Ls.but {H H' : Hp} {p l : Addr} {n : Nat} {It : Hp → V → Nat → Prop} (m : Mono It) (e : But p H H') (hP : IsPool H p) (ne : l ≠ p) (h : Ls H l n It) : Ls H' l n It := by
  obtain ⟨xs, h1, h2, h3⟩ := h
  exact ⟨xs, e _ _ ne h1, h2, fun k x q => m _ _ _ _ (SameN.but e hP) (h3 k x q)⟩
theorem But.put {H H' : Hp} {p F : Addr} {o : HO} (e : But p H H') (h : H F = none) : But p H (upd H' F o) := fun a u ne ha => by
  rw [upd_ne (ne_of_none ha h)]
  exact e a u ne ha
theorem But.none {H H' : Hp} {p F : Addr} (e : But p H H') (ne : F ≠ p) (h : H' F = none) : H F = none := by
  cases q : H F with
  | none => rfl
  | some o =>
    rw [e _ _ ne q] at h
    cases h
theorem IsPool.put {H : Hp} {p F : Addr} {o : HO} (h : IsPool H p) (ne : F ≠ p) : IsPool (upd H F o) p := by
  obtain ⟨ns, e⟩ := h
  exact ⟨ns, by rw [upd_ne ne.symm]; exact e⟩
theorem PB.of {H : Hp} {l : Addr} {n B C : Nat} (h : Ls H l n (itX B C)) : ∃ v, PB H l n v B C := by
  obtain ⟨xs, h1, h2, h3⟩ := h
  have q : ∀ k, ∃ r : Rat, ∀ x, xs[k]? = some x → itPB (fun _ => r) B C H x k := fun k => by
    cases e : xs[k]? with
    | none => exact ⟨0, fun x z => by cases z⟩
    | some x =>
      obtain ⟨a, t, b, ex, ha, b0, tb, bb⟩ := h3 k x e
      refine ⟨(t : Rat) / (b : Rat), fun y ey => ?_⟩
      cases ey
      refine ⟨a, t, b, ex, ha, b0, tb, bb, ?_⟩
      have := ne_cast (show b ≠ 0 by omega)
      show (t : Rat) = (t : Rat) / (b : Rat) * (b : Rat)
      grind
  obtain ⟨v, hv⟩ := Classical.skolem.mp q
  exact ⟨v, xs, h1, h2, fun k x e => hv k x e⟩
def fs_list : F1 := fun a H Q _ => ∃ p : Addr, a = .ref p ∧ IsPool H p ∧ ∀ l H' n v, IsPool H' p → But p H H' → l ≠ p → PB H' l n v 6 2 → 1 ≤ n → n ≤ 60 → Q (.ref l) H'
structure WOk (ns : List Int) (o l0 l1 h0 h1 : Int) : Prop where
  len : ns.length ≤ 13
  o0 : 0 < o
  ob : Bits 3 o
  nb : ∀ k, Bits 20 (cf ns k)
  top : ∀ m, ns.length = m + 1 → cf ns m ≠ 0
  a0 : -4 ≤ l0
  a1 : l0 ≤ 4
  b0 : 1 ≤ l1
  b1 : l1 ≤ 3
  c0 : -12 ≤ h0
  c1 : h0 ≤ 27
  d0 : 1 ≤ h1
  d1 : h1 ≤ 9
  lt : l0 * h1 < h0 * l1
def fs_world : F1 := fun a H Q _ => ∃ p : Addr, a = .ref p ∧ IsPool H p ∧ ∀ t pp q lo hi H' ns o l0 l1 h0 h1, IsPool H' p → But p H H' → H' t = some (.tup [.ref pp, .ref lo, .ref hi]) → H' pp = some (.tup [.ref q, .int o]) → H' q = some (.lst (ns.map V.int)) → q ≠ p → H' lo = some (.tup [.int l0, .int l1]) → H' hi = some (.tup [.int h0, .int h1]) → WOk ns o l0 l1 h0 h1 → Q (.ref t) H'
local macro_rules | `(tactic| walk_at "z") => `(tactic| ((with_reducible refine' u_take ?zl1 ?zl2 ?zl3 ?zl4 ?_); (case zl1 => walk_at "up"); (case zl2 => omega); (case zl3 => omega); (case zl4 => omega); intro r H' r0 r1 hP hB))
local macro_rules | `(tactic| walk_at "z") => `(tactic| ((with_reducible refine' u_turn ?zl1 ?zl2 ?zl3 ?zl4 ?_); (case zl1 => walk_at "up"); (case zl2 => omega); (case zl3 => omega); (case zl4 => omega); intro r H' r0 r1 hP hB))

section
variable {P : Program} {w : World} {K : Frag} {mg : Str → Option Value} {base : Heap}
theorem ok_law_list (L : Lw K mg) {fd : FuncData} (F : FunD K "_law_list" "_law_list" (defArgs s_law_list) (defBody s_law_list) (defScope s_law_list) (df_law_list.dvs K) (df_law_list.kws K) (He.fAd K ("_law_list", none)) fd) : FnOk P w K mg base (L2N.CX P w) 3 (He.fAd K ("_law_list", none)) fd (["pool"] : List Str) (sp1 fs_list) := by
  refine FunD.ok F sc_law_list len1 (fun cdv A outer s H vs Q E hr h => ?_)
  obtain ⟨a, rfl, h⟩ := h
  refine ⟨_, (pss_cons (ps_set (i := 1) sc_law_list.nd rfl (by first | exact Or.inl rfl | exact Or.inr rfl) (pe_op o_cat pe_int (pe_c (c_law_turn (K := K) L) hr (by decide) (L2N.takes_of rfl rfl rfl rfl) (pa_cons (pv 0) (pa_cons pe_int (pa_cons pe_int (pa_cons pe_int pa_nil)))))))
    (pss_cons (ps_if (pt_cmpR op_eq (pe_c (c_law_take (K := K) L) hr (by decide) (L2N.takes_of rfl rfl rfl rfl) (pa_cons (pv 0) (pa_cons pe_int (pa_cons pe_int pa_nil)))) pe_int (nomark _)) (pss_one (ps_set (i := 1) sc_law_list.nd rfl (by first | exact Or.inl rfl | exact Or.inr rfl) pe_int)) pss_nil)
    (pss_cons (ps_set (i := 2) sc_law_list.nd rfl (by first | exact Or.inl rfl | exact Or.inr rfl) (pe_lst pa_nil))
    (pss_cons (ps_for (passes_of rfl) rfl (pi_range1 (by rfl) L.f_range (pa_cons (pv 1) pa_nil)) (pg_name (i := 3) sc_law_list.nd rfl (by first | exact Or.inl rfl | exact Or.inr rfl)) (pss_cons (ps_set (i := 4) sc_law_list.nd rfl (by first | exact Or.inl rfl | exact Or.inr rfl) (pe_op o_sub (pe_c (c_law_turn (K := K) L) hr (by decide) (L2N.takes_of rfl rfl rfl rfl) (pa_cons (pv 0) (pa_cons (pe_op o_cat pe_int (pe_op o_mod (pv 3) pe_int)) (pa_cons pe_int (pa_cons (pe_op o_cat (pe_op o_rep pe_int (pv 3)) pe_int) pa_nil))))) pe_int))
    (pss_one (ps_expr (pe_bm PySem.F.plainAttrs_list PySem.F.slot_list_append PySem.F.type_list_append mt_append (pv 2) (pa_cons (pe_tup (pa_cons (pv 4) (pa_cons (pe_op o_cat pe_int (pe_c (c_law_turn (K := K) L) hr (by decide) (L2N.takes_of rfl rfl rfl rfl) (pa_cons (pv 0) (pa_cons pe_int (pa_cons pe_int (pa_cons (pv 3) pa_nil)))))) pa_nil))) pa_nil))))))
    (pss_one (ps_ret (pv 2))))))), ?_⟩
  obtain ⟨p, rfl, hP, k⟩ := h
  walk_at "zz"
  rename_i r Hr r0 r1 hPr hBr q Hq q0 q1 hPq hBq
  refine z_d2 (fun c => ?_) (fun c => ?_)
  · walk_at "zz"
    walk_at "zz"
    rename_i F HF hF sF eF
    have hPF : IsPool HF p := by walk_at "up"
    have neF : F ≠ p := IsPool.ne (by walk_at "up") hF
    have bt0 : But p H Hq := by walk_at "bt"
    have hF0 : H F = none := But.none bt0 neF hF
    refine z_foRe (n := 60) (by omega) (by omega) (fun i σ' H' => ∃ (x1 x3 x4 : Option V), σ' = [some (.ref p), x1, some (.ref F), x3, x4] ∧ IsPool H' p ∧ But p H H' ∧ Ls H' F i (itX 6 2)) ⟨_, _, _, rfl, hPF, bt0.trans (But.of sF), [], eF, rfl, fun k x e => by simp at e⟩ ?_ ?_
    · rintro i σ' H' hi ⟨x1, x3, x4, rfl, hP', hB', hLs⟩
      walk_at "zz"
      refine z_mod (by omega) ?_
      walk_at "zz"
      rename_i r1 H1 r10 r11 hP1 hB1
      have hL1 := Ls.but itX_mono hB1 hP' neF hLs
      obtain ⟨ys, hys, lys, _⟩ := id hL1
      refine z_bml hys ?_
      walk_at "zz"
      rename_i r2 H2 r20 r21 hP2 hB2 tp H3 htp s3 etp
      have hL3 := (Ls.but itX_mono hB2 hP1 neF hL1).mono itX_mono s3
      obtain ⟨ys, hys, lys, iys⟩ := hL3
      refine z_ap hys (by omega) ?_
      have hP3 : IsPool H3 p := by walk_at "up"
      have b3 : But p H H3 := ((hB'.trans hB1).trans hB2).trans (But.of s3)
      walk_at "zz"
      exact ⟨_, _, _, rfl, IsPool.put hP3 neF, But.put b3 hF0, Ls.snoc itX_mono hys lys iys ⟨tp, r1 - 20, 1 + r2, rfl, etp, by omega, Bits.small (n := 6) (by show -(64 : Int) < _; omega) (by show _ < (64 : Int); omega), Bits.small (n := 2) (by show -(4 : Int) < _; omega) (by show _ < (4 : Int); omega)⟩⟩
    · rintro σ' H' ⟨x1, x3, x4, rfl, hP', hB', hLs⟩
      obtain ⟨v, hv⟩ := PB.of hLs
      walk_at "zz"
      exact k F H' _ v hP' hB' neF hv (by omega) (by omega)
  · walk_at "zz"
    rename_i F HF hF sF eF
    have hPF : IsPool HF p := by walk_at "up"
    have neF : F ≠ p := IsPool.ne (by walk_at "up") hF
    have bt0 : But p H Hq := by walk_at "bt"
    have hF0 : H F = none := But.none bt0 neF hF
    refine z_foRe (n := (1 + r).toNat) (by omega) (by omega) (fun i σ' H' => ∃ (x1 x3 x4 : Option V), σ' = [some (.ref p), x1, some (.ref F), x3, x4] ∧ IsPool H' p ∧ But p H H' ∧ Ls H' F i (itX 6 2)) ⟨_, _, _, rfl, hPF, bt0.trans (But.of sF), [], eF, rfl, fun k x e => by simp at e⟩ ?_ ?_
    · rintro i σ' H' hi ⟨x1, x3, x4, rfl, hP', hB', hLs⟩
      walk_at "zz"
      refine z_mod (by omega) ?_
      walk_at "zz"
      rename_i r1 H1 r10 r11 hP1 hB1
      have hL1 := Ls.but itX_mono hB1 hP' neF hLs
      obtain ⟨ys, hys, lys, _⟩ := id hL1
      refine z_bml hys ?_
      walk_at "zz"
      rename_i r2 H2 r20 r21 hP2 hB2 tp H3 htp s3 etp
      have hL3 := (Ls.but itX_mono hB2 hP1 neF hL1).mono itX_mono s3
      obtain ⟨ys, hys, lys, iys⟩ := hL3
      refine z_ap hys (by omega) ?_
      have hP3 : IsPool H3 p := by walk_at "up"
      have b3 : But p H H3 := ((hB'.trans hB1).trans hB2).trans (But.of s3)
      walk_at "zz"
      exact ⟨_, _, _, rfl, IsPool.put hP3 neF, But.put b3 hF0, Ls.snoc itX_mono hys lys iys ⟨tp, r1 - 20, 1 + r2, rfl, etp, by omega, Bits.small (n := 6) (by show -(64 : Int) < _; omega) (by show _ < (64 : Int); omega), Bits.small (n := 2) (by show -(4 : Int) < _; omega) (by show _ < (4 : Int); omega)⟩⟩
    · rintro σ' H' ⟨x1, x3, x4, rfl, hP', hB', hLs⟩
      obtain ⟨v, hv⟩ := PB.of hLs
      walk_at "zz"
      exact k F H' _ v hP' hB' neF hv (by omega) (by omega)
theorem c_law_list (L : Lw K mg) : Cal P w K mg base 3 "_law_list" (sp1 fs_list) [] := by
  obtain ⟨fd, F⟩ := L.d_law_list
  exact ⟨⟨_, fd, ["pool"], [], ok_law_list L F, L.g_law_list, F.kp, F.bindsN (fun _ _ _ _ _ _ us hl => match us, hl with | [_], _ => rfl), .nil⟩⟩
end
end T

set_option maxHeartbeats 4000000
namespace T
open PySem PySem.Spec PyProof.Rows L2 Z
/-! the readings' steps, as one word: walk_at "z" (one step), "zz" (as far as it goes), "up" (a fact carried here) -/
local macro_rules | `(tactic| walk_at "up") => `(tactic| first
  | assumption
  | (refine' IsR.mono (by assumption) ?zup; case zup => walk_at "up")
  | (refine' IsE.mono (by assumption) ?zup; case zup => walk_at "up")
  | (refine' Same.at (by assumption) ?zup; case zup => walk_at "up")
  | (refine' SqL.of ?zup; case zup => walk_at "up")
  | (refine' L2.Same.seq (by assumption) ?zup; case zup => walk_at "up"))
local macro_rules | `(tactic| walk_at "z") => `(tactic| first
  | ((with_reducible refine' z_var ?zvh ?_); (case zvh => exact rfl))
  | with_reducible refine z_c ?_
  | with_reducible refine z_cons ?_
  | with_reducible refine z_nil ?_
  | with_reducible refine z_op ?_
  | with_reducible refine z_nx ?_
  | with_reducible refine z_seq ?_
  | with_reducible refine z_asg ?_
  | with_reducible refine z_asgG ?_
  | with_reducible refine z_call ?_
  | with_reducible refine z_sq0 ?_
  | with_reducible refine z_sq1 ?_
  | with_reducible refine z_ifS ?_
  | with_reducible refine z_test ?_
  | with_reducible refine z_tb ?_
  | with_reducible refine z_bl ?_
  | with_reducible refine z_blI ?_
  | with_reducible refine z_ret ?_
  | with_reducible refine z_rt ?_
  | with_reducible refine z_T ?_
  | with_reducible refine z_F ?_
  | with_reducible refine z_add ?_
  | with_reducible refine z_sub ?_
  | with_reducible refine z_neg ?_
  | with_reducible refine z_un ?_
  | with_reducible refine z_eqI ?_
  | with_reducible refine z_neI ?_
  | with_reducible refine z_lt ?_
  | with_reducible refine z_le ?_
  | with_reducible refine z_gt ?_
  | with_reducible refine z_ge ?_
  | with_reducible refine z_not ?_
  | with_reducible refine z_and ?_
  | with_reducible refine z_or ?_
  | with_reducible refine z_andV ?_
  | with_reducible refine z_orV ?_
  | with_reducible refine z_notV ?_
  | with_reducible refine z_if ?_
  | with_reducible refine z_cb ?_
  | with_reducible refine z_int1 ?_
  | with_reducible refine z_intb ?_
  | with_reducible refine z_abs ?_
  | with_reducible refine z_gcd ?_
  | with_reducible refine z_isi_ii ?_
  | with_reducible refine z_isi_ib ?_
  | with_reducible refine z_next ?_
  | with_reducible refine z_drop ?_
  | with_reducible refine z_par ?_
  | with_reducible refine z_par2 ?_
  | with_reducible refine z_tupN ?_
  | with_reducible refine z_lstN ?_
  | ((with_reducible refine' z_nt ?zl1 ?_); (case zl1 => exact Nat.le_of_ble_eq_true rfl); intro p H' hp hs he)
  | ((with_reducible refine' z_gtup ?zl1 ?zl2 ?_); (case zl1 => walk_at "up"); (case zl2 => exact rfl))
  | with_reducible refine z_bk ?_
  | with_reducible refine z_ct ?_
  | with_reducible refine z_break ?_
  | with_reducible refine z_cont ?_
  | with_reducible refine z_retN ?_
  | with_reducible refine z_nn ?_
  | with_reducible refine z_mk ?_
  | with_reducible refine z_gn ?_
  | with_reducible refine z_gcons ?_
  | with_reducible refine z_gnil ?_
  | with_reducible refine z_mt ?_
  | with_reducible refine z_mko ?_
  | with_reducible refine z_for2 ?_
  | with_reducible refine z_ownI ?_
  | ((with_reducible refine' z_lenL ?zl1 ?_); (case zl1 => walk_at "up"))
  | ((with_reducible refine' z_ixT ?zl1 ?zl2 ?_); (case zl1 => walk_at "up"); (case zl2 => exact rfl))
  | ((with_reducible refine' z_mulL ?zl1 ?zl2 ?_); (case zl1 => omega); (case zl2 => omega))
  | ((with_reducible refine' z_mulR ?zl1 ?zl2 ?_); (case zl1 => omega); (case zl2 => omega))
  | ((with_reducible refine' z_divS ?zl1 ?zl2 ?_); (case zl1 => omega); (case zl2 => omega))
  | ((with_reducible refine' z_mulW ?zl1 ?zl2 ?zl3 ?zl4 ?_); (case zl1 => omega); (case zl2 => omega); (case zl3 => omega); (case zl4 => omega))
  | ((with_reducible refine' z_divW ?zl1 ?zl2 ?_); (case zl1 => omega); (case zl2 => omega)))
local macro_rules | `(tactic| walk_at "zz") => `(tactic| repeat (walk_at "z"))
local macro_rules | `(tactic| walk_at "z") => `(tactic| with_reducible refine z_lstN ?_)
local macro_rules | `(tactic| walk_at "z") => `(tactic| with_reducible refine z_p6 ?_)
local macro_rules | `(tactic| walk_at "z") => `(tactic| with_reducible refine z_p12 ?_)
local macro_rules | `(tactic| walk_at "z") => `(tactic| with_reducible refine z_p13 ?_)
local macro_rules | `(tactic| walk_at "z") => `(tactic| with_reducible refine z_calln ?_)
local macro_rules | `(tactic| walk_at "z") => `(tactic| with_reducible refine z_xfS ?_)
local macro_rules | `(tactic| walk_at "z") => `(tactic| with_reducible refine z_lcS ?_)
local macro_rules | `(tactic| walk_at "z") => `(tactic| with_reducible refine z_lcRS ?_)
local macro_rules | `(tactic| walk_at "z") => `(tactic| with_reducible refine z_lcZS ?_)
local macro_rules | `(tactic| walk_at "z") => `(tactic| with_reducible refine z_foS ?_)
local macro_rules | `(tactic| walk_at "z") => `(tactic| with_reducible refine z_for1 ?_)
local macro_rules | `(tactic| walk_at "z") => `(tactic| with_reducible refine z_tsl ?_)
local macro_rules | `(tactic| walk_at "z") => `(tactic| with_reducible refine z_np ?_)
local macro_rules | `(tactic| walk_at "z") => `(tactic| with_reducible refine z_pt ?_)
local macro_rules | `(tactic| walk_at "z") => `(tactic| with_reducible refine z_pti ?_)
local macro_rules | `(tactic| walk_at "z") => `(tactic| with_reducible refine z_catI ?_)
local macro_rules | `(tactic| walk_at "z") => `(tactic| with_reducible refine z_isNI ?_)
local macro_rules | `(tactic| walk_at "z") => `(tactic| with_reducible refine z_isNN ?_)
local macro_rules | `(tactic| walk_at "z") => `(tactic| with_reducible refine z_notNI ?_)
local macro_rules | `(tactic| walk_at "z") => `(tactic| with_reducible refine z_notNN ?_)
local macro_rules | `(tactic| walk_at "z") => `(tactic| with_reducible refine z_gsub ?_)
local macro_rules | `(tactic| walk_at "z") => `(tactic| with_reducible refine z_isNb ?_)
local macro_rules | `(tactic| walk_at "z") => `(tactic| with_reducible refine z_notNb ?_)
local macro_rules | `(tactic| walk_at "z") => `(tactic| ((with_reducible refine' z_nlR ?zl1 ?_); (case zl1 => exact Nat.le_of_ble_eq_true rfl); intro p H' hp hs he))
local macro_rules | `(tactic| walk_at "z") => `(tactic| ((with_reducible refine' z_repR ?zl1 ?zl2 ?_); (case zl1 => omega); (case zl2 => omega)))
local macro_rules | `(tactic| walk_at "z") => `(tactic| ((with_reducible refine' z_repL ?zl1 ?zl2 ?_); (case zl1 => omega); (case zl2 => omega)))
local macro_rules | `(tactic| walk_at "z") => `(tactic| ((with_reducible refine' z_lenLst ?zl1 ?_); (case zl1 => walk_at "up")))
local macro_rules | `(tactic| walk_at "z") => `(tactic| ((with_reducible refine' z_cat ?zl1 ?zl2 ?zl3 ?_); (case zl1 => walk_at "up"); (case zl2 => walk_at "up"); (case zl3 => (simp only [List.length_map, List.length_cons, List.length_nil, List.length_append, List.length_replicate]; omega)); intro p H' hp hs he))
local macro_rules | `(tactic| walk_at "z") => `(tactic| with_reducible refine z_sfl ?_)
local macro_rules | `(tactic| walk_at "z") => `(tactic| with_reducible refine z_lcES ?_)
local macro_rules | `(tactic| walk_at "z") => `(tactic| with_reducible refine z_lcMS ?_)
local macro_rules | `(tactic| walk_at "z") => `(tactic| with_reducible refine z_foES ?_)
local macro_rules | `(tactic| walk_at "z") => `(tactic| with_reducible refine z_fo3S ?_)
local macro_rules | `(tactic| walk_at "z") => `(tactic| with_reducible refine z_sta ?_)
local macro_rules | `(tactic| walk_at "z") => `(tactic| with_reducible refine z_sta1 ?_)
local macro_rules | `(tactic| walk_at "z") => `(tactic| with_reducible refine z_lcTS ?_)
local macro_rules | `(tactic| walk_at "z") => `(tactic| with_reducible refine z_foTS ?_)
local macro_rules | `(tactic| walk_at "z") => `(tactic| ((with_reducible refine' z_fldt ?zc1 ?zc2 ?zl1 ?zl2 ?_); (case zc1 => exact Lw.cl_Ratio (by assumption)); (case zc2 => exact Lw.na_Ratio_top (by assumption)); (case zl1 => exact rfl); (case zl2 => walk_at "up")))
local macro_rules | `(tactic| walk_at "z") => `(tactic| ((with_reducible refine' z_fldb ?zc1 ?zc2 ?zl1 ?zl2 ?_); (case zc1 => exact Lw.cl_Ratio (by assumption)); (case zc2 => exact Lw.na_Ratio_bottom (by assumption)); (case zl1 => exact rfl); (case zl2 => walk_at "up")))
local macro_rules | `(tactic| walk_at "z") => `(tactic| ((with_reducible refine' z_fldG ?zc1 ?zc2 ?zl0 ?zl1 ?zl2 ?_); (case zc1 => exact Lw.cl_Poly (by assumption)); (case zc2 => exact Lw.na_Poly_numbers (by assumption)); (case zl0 => exact rfl); (case zl1 => walk_at "up"); (case zl2 => exact lkA)))
local macro_rules | `(tactic| walk_at "z") => `(tactic| ((with_reducible refine' z_fldG ?zc1 ?zc2 ?zl0 ?zl1 ?zl2 ?_); (case zc1 => exact Lw.cl_Poly (by assumption)); (case zc2 => exact Lw.na_Poly_over (by assumption)); (case zl0 => exact rfl); (case zl1 => walk_at "up"); (case zl2 => exact lkO)))
local macro_rules | `(tactic| walk_at "z") => `(tactic| ((with_reducible refine' z_fldG ?zc1 ?zc2 ?zl0 ?zl1 ?zl2 ?_); (case zc1 => exact Lw.cl_Poly (by assumption)); (case zc2 => exact Lw.na_Poly_degree (by assumption)); (case zl0 => exact rfl); (case zl1 => walk_at "up"); (case zl2 => exact lkD)))
local macro_rules | `(tactic| walk_at "z") => `(tactic| ((with_reducible refine' z_isR ?zl1 ?zl2 ?zl3 ?_); (case zl1 => exact Lw.in_Ratio (by assumption)); (case zl2 => exact Lw.kt_Ratio_Ratio (by assumption)); (case zl3 => walk_at "up")))
local macro_rules | `(tactic| walk_at "z") => `(tactic| with_reducible refine z_revL ?_)
theorem same30s {H H1 H2 : Hp} (h : Same H1 H2) (e : Same H H1) : Same H H2 := e.trans h
local macro_rules | `(tactic| walk_at "sm") => `(tactic| first
  | assumption
  | exact fun _ _ h => h
  | (refine' same30s (by assumption) ?zsm; case zsm => walk_at "sm"))
local macro_rules | `(tactic| walk_at "bt") => `(tactic| first
  | assumption
  | exact fun _ _ _ h => h
  | (refine' But.trans ?zsm (by assumption); case zsm => walk_at "bt")
  | (refine' But.trans ?zsm (But.of (by assumption)); case zsm => walk_at "bt"))

open S31 (cf pb pb_succ)
open S30
theorem Bits.cfs {ns : List Int} {x : Int} {B : Nat} (h : ∀ k, Bits B (cf ns k)) (hx : Bits B x) (k : Nat) : Bits B (cf (ns ++ [x]) k) := by
  rcases Nat.lt_or_ge k ns.length with c | c
  · have := h k
    rw [S31.cf_in c] at this
    rw [S31.cf_in (by simp; omega), List.getElem_append_left c]
    exact this
  · by_cases e : k = ns.length
    · subst e
      rw [S31.cf_in (by simp), List.getElem_append_right (Nat.le_refl _)]
      simpa using hx
    · rw [S31.cf_out (by simp; omega)]
      exact Bits.zero
theorem world_ok {ns ls : List Int} {o o' a b c d : Int} (h : LowT ns o ls o') (hl : ns.length ≤ 13) (o0 : 1 ≤ o) (o4 : o ≤ 4) (nb : ∀ k, Bits 20 (cf ns k)) (a0 : 0 ≤ a) (a1 : a < 9) (b0 : 0 ≤ b) (b1 : b < 3) (c0 : 0 ≤ c) (c1 : c < 5) (d0 : 0 ≤ d) (d1 : d < 3) :
    WOk ls o' (a - 4) (1 + b) ((a - 4) * (1 + d) + (1 + c) * (1 + b)) ((1 + b) * (1 + d)) := by
  have hb : b = 0 ∨ b = 1 ∨ b = 2 := by omega
  have hd : d = 0 ∨ d = 1 ∨ d = 2 := by omega
  have ob : Bits 3 o := Bits.small (n := 3) (by show -(8 : Int) < _; omega) (by show _ < (8 : Int); omega)
  have ho : 0 < o' := h.pos (by omega)
  refine ⟨Nat.le_trans h.len hl, ho, ob.le h.over, fun k => (nb k).le (h.abs k), fun m e => h.top m e, by omega, by omega, by omega, by omega, ?_, ?_, ?_, ?_, ?_⟩ <;> rcases hb with rfl | rfl | rfl <;> rcases hd with rfl | rfl | rfl <;> omega
local macro_rules | `(tactic| walk_at "up") => `(tactic| first
  | assumption
  | (with_reducible refine' IsPool.mono (by assumption) ?zup; case zup => walk_at "up")
  | (with_reducible refine' IsR.mono (by assumption) ?zup; case zup => walk_at "up")
  | (with_reducible refine' IsV.mono (by assumption) ?zup; case zup => walk_at "up")
  | (with_reducible refine' IsQ.mono (by assumption) ?zup; case zup => walk_at "up")
  | (with_reducible refine' PQ.mono (by assumption) ?zup; case zup => walk_at "up")
  | (with_reducible refine' RL.mono (by assumption) ?zup; case zup => walk_at "up")
  | (with_reducible refine' PL.mono (by assumption) ?zup; case zup => walk_at "up")
  | (with_reducible refine' RB.mono (by assumption) ?zup; case zup => walk_at "up")
  | (with_reducible refine' PB.mono (by assumption) ?zup; case zup => walk_at "up")
  | (with_reducible refine' Rows.mono (by assumption) ?zup; case zup => walk_at "up")
  | (with_reducible refine' Same.at (by assumption) ?zup; case zup => walk_at "up")
  | (with_reducible refine' But.at (by assumption) ?zne ?zup; (case zne => (first | assumption | exact Ne.symm (by assumption))); (case zup => walk_at "up"))
  | (with_reducible refine' IsPool.of ?zup; case zup => walk_at "up")
  | fail)
local macro_rules | `(tactic| walk_at "z") => `(tactic| with_reducible refine z_bm ?_)
local macro_rules | `(tactic| walk_at "z") => `(tactic| ((with_reducible refine' u_take ?zl1 ?zl2 ?zl3 ?zl4 ?_); (case zl1 => walk_at "up"); (case zl2 => omega); (case zl3 => omega); (case zl4 => omega); intro r H' r0 r1 hP hB))
local macro_rules | `(tactic| walk_at "z") => `(tactic| ((with_reducible refine' u_turn ?zl1 ?zl2 ?zl3 ?zl4 ?_); (case zl1 => walk_at "up"); (case zl2 => omega); (case zl3 => omega); (case zl4 => omega); intro r H' r0 r1 hP hB))
section
variable {P : Program} {w : World} {K : Frag} {mg : Str → Option Value} {base : Heap}
theorem ok_law_world (L : Lw K mg) {fd : FuncData} (F : FunD K "_law_world" "_law_world" (defArgs s_law_world) (defBody s_law_world) (defScope s_law_world) (df_law_world.dvs K) (df_law_world.kws K) (He.fAd K ("_law_world", none)) fd) : FnOk P w K mg base (L2N.CX P w) 3 (He.fAd K ("_law_world", none)) fd (["pool"] : List Str) (sp1 fs_world) := by
  refine FunD.ok F sc_law_world len1 (fun cdv A outer s H vs Q E hr h => ?_)
  obtain ⟨a, rfl, h⟩ := h
  refine ⟨_, (pss_cons (ps_set (i := 1) sc_law_world.nd rfl (by first | exact Or.inl rfl | exact Or.inr rfl) (pe_op o_sub pe_int (pe_c (c_law_take (K := K) L) hr (by decide) (L2N.takes_of rfl rfl rfl rfl) (pa_cons (pv 0) (pa_cons pe_int (pa_cons pe_int pa_nil))))))
    (pss_cons (ps_if (pt_cmpR op_eq (pe_c (c_law_take (K := K) L) hr (by decide) (L2N.takes_of rfl rfl rfl rfl) (pa_cons (pv 0) (pa_cons pe_int (pa_cons pe_int pa_nil)))) pe_int (nomark _)) (pss_one (ps_set (i := 1) sc_law_world.nd rfl (by first | exact Or.inl rfl | exact Or.inr rfl) pe_int)) pss_nil)
    (pss_cons (ps_if (pt_cmpR op_eq (pe_c (c_law_take (K := K) L) hr (by decide) (L2N.takes_of rfl rfl rfl rfl) (pa_cons (pv 0) (pa_cons pe_int (pa_cons pe_int pa_nil)))) pe_int (nomark _)) (pss_one (ps_set (i := 1) sc_law_world.nd rfl (by first | exact Or.inl rfl | exact Or.inr rfl) pe_int)) pss_nil)
    (pss_cons (ps_set (i := 2) sc_law_world.nd rfl (by first | exact Or.inl rfl | exact Or.inr rfl) (pe_lst pa_nil))
    (pss_cons (ps_for (passes_of rfl) rfl (pi_range1 (by rfl) L.f_range (pa_cons (pv 1) pa_nil)) (pg_name (i := 3) sc_law_world.nd rfl (by first | exact Or.inl rfl | exact Or.inr rfl)) (pss_one (ps_expr (pe_bm PySem.F.plainAttrs_list PySem.F.slot_list_append PySem.F.type_list_append mt_append (pv 2) (pa_cons (pe_op o_sub (pe_c (c_law_turn (K := K) L) hr (by decide) (L2N.takes_of rfl rfl rfl rfl) (pa_cons (pv 0) (pa_cons (pe_op o_cat pe_int (pe_op o_div (pv 3) pe_int)) (pa_cons pe_int (pa_cons (pe_op o_cat (pe_op o_rep pe_int (pv 3)) pe_int) pa_nil))))) pe_int) pa_nil)))))
    (pss_cons (ps_set (i := 4) sc_law_world.nd rfl (by first | exact Or.inl rfl | exact Or.inr rfl) (pe_tup (pa_cons (pe_op o_sub (pe_c (c_law_turn (K := K) L) hr (by decide) (L2N.takes_of rfl rfl rfl rfl) (pa_cons (pv 0) (pa_cons pe_int (pa_cons pe_int (pa_cons pe_int pa_nil))))) pe_int) (pa_cons (pe_op o_cat pe_int (pe_c (c_law_take (K := K) L) hr (by decide) (L2N.takes_of rfl rfl rfl rfl) (pa_cons (pv 0) (pa_cons pe_int (pa_cons pe_int pa_nil))))) pa_nil))))
    (pss_cons (ps_set (i := 5) sc_law_world.nd rfl (by first | exact Or.inl rfl | exact Or.inr rfl) (pe_tup (pa_cons (pe_op o_cat pe_int (pe_c (c_law_turn (K := K) L) hr (by decide) (L2N.takes_of rfl rfl rfl rfl) (pa_cons (pv 0) (pa_cons pe_int (pa_cons pe_int (pa_cons pe_int pa_nil)))))) (pa_cons (pe_op o_cat pe_int (pe_c (c_law_take (K := K) L) hr (by decide) (L2N.takes_of rfl rfl rfl rfl) (pa_cons (pv 0) (pa_cons pe_int (pa_cons pe_int pa_nil))))) pa_nil))))
    (pss_cons (ps_set (i := 6) sc_law_world.nd rfl (by first | exact Or.inl rfl | exact Or.inr rfl) (pe_op o_cat (pe_op o_rep (pe_ix (ix_seqK (K := K) rfl) (pv 4) pe_int (fun _ _ => rfl)) (pe_ix (ix_seqK (K := K) rfl) (pv 5) pe_int (fun _ _ => rfl))) (pe_op o_rep (pe_ix (ix_seqK (K := K) rfl) (pv 5) pe_int (fun _ _ => rfl)) (pe_ix (ix_seqK (K := K) rfl) (pv 4) pe_int (fun _ _ => rfl)))))
    (pss_cons (ps_set (i := 7) sc_law_world.nd rfl (by first | exact Or.inl rfl | exact Or.inr rfl) (pe_c (c_law_low (K := K) L) hr (by decide) (L2N.takes_of rfl rfl rfl rfl) (pa_cons (pv 2) (pa_cons (pe_op o_cat pe_int (pe_c (c_law_take (K := K) L) hr (by decide) (L2N.takes_of rfl rfl rfl rfl) (pa_cons (pv 0) (pa_cons pe_int (pa_cons pe_int pa_nil))))) pa_nil))))
    (pss_one (ps_ret (pe_tup (pa_cons (pv 7) (pa_cons (pv 4) (pa_cons (pe_tup (pa_cons (pv 6) (pa_cons (pe_op o_rep (pe_ix (ix_seqK (K := K) rfl) (pv 4) pe_int (fun _ _ => rfl)) (pe_ix (ix_seqK (K := K) rfl) (pv 5) pe_int (fun _ _ => rfl))) pa_nil))) pa_nil))))))))))))))), ?_⟩
  obtain ⟨p, rfl, hP, k⟩ := h
  walk_at "zz"
  rename_i r Hr r0 r1 hPr hBr q Hq q0 q1 hPq hBq
  refine z_d2 (fun c => ?_) (fun c => ?_)
  · walk_at "zz"
    rename_i s Hs s0 s1 hPs hBs
    refine z_d2 (fun c2 => ?_) (fun c2 => ?_)
    · walk_at "zz"
      walk_at "zz"
      rename_i F HF hF sF eF
      have hPF : IsPool HF p := by walk_at "up"
      have neF : F ≠ p := IsPool.ne (by walk_at "up") hF
      have bt0 : But p H Hs := by walk_at "bt"
      have hF0 : H F = none := But.none bt0 neF hF
      refine z_foRe (n := 0) (by omega) (by omega) (fun i σ' H' => ∃ (x1 x3 : Option V) (ns : List Int), σ' = [some (.ref p), x1, some (.ref F), x3, none, none, none, none] ∧ IsPool H' p ∧ But p H H' ∧ H' F = some (.lst (ns.map V.int)) ∧ ns.length = i ∧ ∀ k, Bits 20 (cf ns k)) ⟨_, _, [], rfl, hPF, bt0.trans (But.of sF), eF, rfl, fun k => by rw [S31.cf_nil]; exact Bits.zero⟩ ?_ ?_
      · rintro i σ' H' hi ⟨x1, x3, ns, rfl, hP', hB', hns, lns, nb⟩
        walk_at "zz"
        refine z_bml hns ?_
        walk_at "zz"
        rename_i r1 H1 r10 r11 hP1 hB1
        have hn1 := hB1.at neF hns
        refine z_ap hn1 (by simp; omega) ?_
        have b3 : But p H H1 := hB'.trans hB1
        walk_at "zz"
        refine ⟨_, _, ns ++ [r1 - 9], rfl, IsPool.put hP1 neF, But.put b3 hF0, ?_, by simp; omega, Bits.cfs nb (Bits.small (n := 20) (by show -(1048576 : Int) < _; omega) (by show _ < (1048576 : Int); omega))⟩
        rw [upd_same, List.map_append]
        rfl
      · rintro σ' H' ⟨x1, x3, ns, rfl, hP', hB', hns, lns, nb⟩
        have hl13 : ns.length ≤ 13 := by omega
        walk_at "zz"
        rename_i a Ha a0 a1 hPa hBa b Hb b0 b1 hPb hBb lo Hlo hlo slo elo g Hg g0 g1 hPg hBg d Hd d0 d1 hPd hBd wi Hwi hwi swi ewi
        have nlo : lo ≠ p := IsPool.ne (by walk_at "up") hlo
        have nwi : wi ≠ p := IsPool.ne (by walk_at "up") hwi
        have elo2 : Hwi lo = some (.tup [.int (a - 4), .int (1 + b)]) := by walk_at "up"
        walk_at "zz"
        rename_i e He e0 e1 hPe hBe
        refine ⟨_, _, rfl, F, ns, _, rfl, rfl, by walk_at "up", by omega, by omega, bits_up (bits_of (by omega) (by omega)) (by decide), fun t q H2 ls o' s2 et eq lw nq => ?_⟩
        walk_at "zz"
        rename_i hi Hhi hhi shi ehi t2 Ht2 ht2 st2 et2
        have nqp : q ≠ p := IsPool.ne hPe nq
        exact k t2 t q lo hi _ _ _ _ _ _ _ (by walk_at "up") (by walk_at "bt") et2 (by walk_at "up") (by walk_at "up") nqp (by walk_at "up") (by walk_at "up") (world_ok lw hl13 (by omega) (by omega) nb a0 a1 b0 b1 g0 g1 d0 d1)
    · walk_at "zz"
      rename_i F HF hF sF eF
      have hPF : IsPool HF p := by walk_at "up"
      have neF : F ≠ p := IsPool.ne (by walk_at "up") hF
      have bt0 : But p H Hs := by walk_at "bt"
      have hF0 : H F = none := But.none bt0 neF hF
      refine z_foRe (n := 13) (by omega) (by omega) (fun i σ' H' => ∃ (x1 x3 : Option V) (ns : List Int), σ' = [some (.ref p), x1, some (.ref F), x3, none, none, none, none] ∧ IsPool H' p ∧ But p H H' ∧ H' F = some (.lst (ns.map V.int)) ∧ ns.length = i ∧ ∀ k, Bits 20 (cf ns k)) ⟨_, _, [], rfl, hPF, bt0.trans (But.of sF), eF, rfl, fun k => by rw [S31.cf_nil]; exact Bits.zero⟩ ?_ ?_
      · rintro i σ' H' hi ⟨x1, x3, ns, rfl, hP', hB', hns, lns, nb⟩
        walk_at "zz"
        refine z_bml hns ?_
        walk_at "zz"
        rename_i r1 H1 r10 r11 hP1 hB1
        have hn1 := hB1.at neF hns
        refine z_ap hn1 (by simp; omega) ?_
        have b3 : But p H H1 := hB'.trans hB1
        walk_at "zz"
        refine ⟨_, _, ns ++ [r1 - 9], rfl, IsPool.put hP1 neF, But.put b3 hF0, ?_, by simp; omega, Bits.cfs nb (Bits.small (n := 20) (by show -(1048576 : Int) < _; omega) (by show _ < (1048576 : Int); omega))⟩
        rw [upd_same, List.map_append]
        rfl
      · rintro σ' H' ⟨x1, x3, ns, rfl, hP', hB', hns, lns, nb⟩
        have hl13 : ns.length ≤ 13 := by omega
        walk_at "zz"
        rename_i a Ha a0 a1 hPa hBa b Hb b0 b1 hPb hBb lo Hlo hlo slo elo g Hg g0 g1 hPg hBg d Hd d0 d1 hPd hBd wi Hwi hwi swi ewi
        have nlo : lo ≠ p := IsPool.ne (by walk_at "up") hlo
        have nwi : wi ≠ p := IsPool.ne (by walk_at "up") hwi
        have elo2 : Hwi lo = some (.tup [.int (a - 4), .int (1 + b)]) := by walk_at "up"
        walk_at "zz"
        rename_i e He e0 e1 hPe hBe
        refine ⟨_, _, rfl, F, ns, _, rfl, rfl, by walk_at "up", by omega, by omega, bits_up (bits_of (by omega) (by omega)) (by decide), fun t q H2 ls o' s2 et eq lw nq => ?_⟩
        walk_at "zz"
        rename_i hi Hhi hhi shi ehi t2 Ht2 ht2 st2 et2
        have nqp : q ≠ p := IsPool.ne hPe nq
        exact k t2 t q lo hi _ _ _ _ _ _ _ (by walk_at "up") (by walk_at "bt") et2 (by walk_at "up") (by walk_at "up") nqp (by walk_at "up") (by walk_at "up") (world_ok lw hl13 (by omega) (by omega) nb a0 a1 b0 b1 g0 g1 d0 d1)
  · walk_at "zz"
    rename_i s Hs s0 s1 hPs hBs
    refine z_d2 (fun c2 => ?_) (fun c2 => ?_)
    · walk_at "zz"
      walk_at "zz"
      rename_i F HF hF sF eF
      have hPF : IsPool HF p := by walk_at "up"
      have neF : F ≠ p := IsPool.ne (by walk_at "up") hF
      have bt0 : But p H Hs := by walk_at "bt"
      have hF0 : H F = none := But.none bt0 neF hF
      refine z_foRe (n := 0) (by omega) (by omega) (fun i σ' H' => ∃ (x1 x3 : Option V) (ns : List Int), σ' = [some (.ref p), x1, some (.ref F), x3, none, none, none, none] ∧ IsPool H' p ∧ But p H H' ∧ H' F = some (.lst (ns.map V.int)) ∧ ns.length = i ∧ ∀ k, Bits 20 (cf ns k)) ⟨_, _, [], rfl, hPF, bt0.trans (But.of sF), eF, rfl, fun k => by rw [S31.cf_nil]; exact Bits.zero⟩ ?_ ?_
      · rintro i σ' H' hi ⟨x1, x3, ns, rfl, hP', hB', hns, lns, nb⟩
        walk_at "zz"
        refine z_bml hns ?_
        walk_at "zz"
        rename_i r1 H1 r10 r11 hP1 hB1
        have hn1 := hB1.at neF hns
        refine z_ap hn1 (by simp; omega) ?_
        have b3 : But p H H1 := hB'.trans hB1
        walk_at "zz"
        refine ⟨_, _, ns ++ [r1 - 9], rfl, IsPool.put hP1 neF, But.put b3 hF0, ?_, by simp; omega, Bits.cfs nb (Bits.small (n := 20) (by show -(1048576 : Int) < _; omega) (by show _ < (1048576 : Int); omega))⟩
        rw [upd_same, List.map_append]
        rfl
      · rintro σ' H' ⟨x1, x3, ns, rfl, hP', hB', hns, lns, nb⟩
        have hl13 : ns.length ≤ 13 := by omega
        walk_at "zz"
        rename_i a Ha a0 a1 hPa hBa b Hb b0 b1 hPb hBb lo Hlo hlo slo elo g Hg g0 g1 hPg hBg d Hd d0 d1 hPd hBd wi Hwi hwi swi ewi
        have nlo : lo ≠ p := IsPool.ne (by walk_at "up") hlo
        have nwi : wi ≠ p := IsPool.ne (by walk_at "up") hwi
        have elo2 : Hwi lo = some (.tup [.int (a - 4), .int (1 + b)]) := by walk_at "up"
        walk_at "zz"
        rename_i e He e0 e1 hPe hBe
        refine ⟨_, _, rfl, F, ns, _, rfl, rfl, by walk_at "up", by omega, by omega, bits_up (bits_of (by omega) (by omega)) (by decide), fun t q H2 ls o' s2 et eq lw nq => ?_⟩
        walk_at "zz"
        rename_i hi Hhi hhi shi ehi t2 Ht2 ht2 st2 et2
        have nqp : q ≠ p := IsPool.ne hPe nq
        exact k t2 t q lo hi _ _ _ _ _ _ _ (by walk_at "up") (by walk_at "bt") et2 (by walk_at "up") (by walk_at "up") nqp (by walk_at "up") (by walk_at "up") (world_ok lw hl13 (by omega) (by omega) nb a0 a1 b0 b1 g0 g1 d0 d1)
    · walk_at "zz"
      rename_i F HF hF sF eF
      have hPF : IsPool HF p := by walk_at "up"
      have neF : F ≠ p := IsPool.ne (by walk_at "up") hF
      have bt0 : But p H Hs := by walk_at "bt"
      have hF0 : H F = none := But.none bt0 neF hF
      refine z_foRe (n := (7 - r).toNat) (by omega) (by omega) (fun i σ' H' => ∃ (x1 x3 : Option V) (ns : List Int), σ' = [some (.ref p), x1, some (.ref F), x3, none, none, none, none] ∧ IsPool H' p ∧ But p H H' ∧ H' F = some (.lst (ns.map V.int)) ∧ ns.length = i ∧ ∀ k, Bits 20 (cf ns k)) ⟨_, _, [], rfl, hPF, bt0.trans (But.of sF), eF, rfl, fun k => by rw [S31.cf_nil]; exact Bits.zero⟩ ?_ ?_
      · rintro i σ' H' hi ⟨x1, x3, ns, rfl, hP', hB', hns, lns, nb⟩
        walk_at "zz"
        refine z_bml hns ?_
        walk_at "zz"
        rename_i r1 H1 r10 r11 hP1 hB1
        have hn1 := hB1.at neF hns
        refine z_ap hn1 (by simp; omega) ?_
        have b3 : But p H H1 := hB'.trans hB1
        walk_at "zz"
        refine ⟨_, _, ns ++ [r1 - 9], rfl, IsPool.put hP1 neF, But.put b3 hF0, ?_, by simp; omega, Bits.cfs nb (Bits.small (n := 20) (by show -(1048576 : Int) < _; omega) (by show _ < (1048576 : Int); omega))⟩
        rw [upd_same, List.map_append]
        rfl
      · rintro σ' H' ⟨x1, x3, ns, rfl, hP', hB', hns, lns, nb⟩
        have hl13 : ns.length ≤ 13 := by omega
        walk_at "zz"
        rename_i a Ha a0 a1 hPa hBa b Hb b0 b1 hPb hBb lo Hlo hlo slo elo g Hg g0 g1 hPg hBg d Hd d0 d1 hPd hBd wi Hwi hwi swi ewi
        have nlo : lo ≠ p := IsPool.ne (by walk_at "up") hlo
        have nwi : wi ≠ p := IsPool.ne (by walk_at "up") hwi
        have elo2 : Hwi lo = some (.tup [.int (a - 4), .int (1 + b)]) := by walk_at "up"
        walk_at "zz"
        rename_i e He e0 e1 hPe hBe
        refine ⟨_, _, rfl, F, ns, _, rfl, rfl, by walk_at "up", by omega, by omega, bits_up (bits_of (by omega) (by omega)) (by decide), fun t q H2 ls o' s2 et eq lw nq => ?_⟩
        walk_at "zz"
        rename_i hi Hhi hhi shi ehi t2 Ht2 ht2 st2 et2
        have nqp : q ≠ p := IsPool.ne hPe nq
        exact k t2 t q lo hi _ _ _ _ _ _ _ (by walk_at "up") (by walk_at "bt") et2 (by walk_at "up") (by walk_at "up") nqp (by walk_at "up") (by walk_at "up") (world_ok lw hl13 (by omega) (by omega) nb a0 a1 b0 b1 g0 g1 d0 d1)
theorem c_law_world (L : Lw K mg) : Cal P w K mg base 3 "_law_world" (sp1 fs_world) [] := by
  obtain ⟨fd, F⟩ := L.d_law_world
  exact ⟨⟨_, fd, ["pool"], [], ok_law_world L F, L.g_law_world, F.kp, F.bindsN (fun _ _ _ _ _ _ us hl => match us, hl with | [_], _ => rfl), .nil⟩⟩
end
end T

set_option maxHeartbeats 0
namespace T
open PySem PySem.Spec PyProof.Rows L2 Z
/-! the readings' steps, as one word: walk_at "z" (one step), "zz" (as far as it goes), "up" (a fact carried here) -/
local macro_rules | `(tactic| walk_at "up") => `(tactic| first
  | assumption
  | (refine' IsR.mono (by assumption) ?zup; case zup => walk_at "up")
  | (refine' IsE.mono (by assumption) ?zup; case zup => walk_at "up")
  | (refine' Same.at (by assumption) ?zup; case zup => walk_at "up")
  | (refine' SqL.of ?zup; case zup => walk_at "up")
  | (refine' L2.Same.seq (by assumption) ?zup; case zup => walk_at "up"))
local macro_rules | `(tactic| walk_at "z") => `(tactic| first
  | ((with_reducible refine' z_var ?zvh ?_); (case zvh => exact rfl))
  | with_reducible refine z_c ?_
  | with_reducible refine z_cons ?_
  | with_reducible refine z_nil ?_
  | with_reducible refine z_op ?_
  | with_reducible refine z_nx ?_
  | with_reducible refine z_seq ?_
  | with_reducible refine z_asg ?_
  | with_reducible refine z_asgG ?_
  | with_reducible refine z_call ?_
  | with_reducible refine z_sq0 ?_
  | with_reducible refine z_sq1 ?_
  | with_reducible refine z_ifS ?_
  | with_reducible refine z_test ?_
  | with_reducible refine z_tb ?_
  | with_reducible refine z_bl ?_
  | with_reducible refine z_blI ?_
  | with_reducible refine z_ret ?_
  | with_reducible refine z_rt ?_
  | with_reducible refine z_T ?_
  | with_reducible refine z_F ?_
  | with_reducible refine z_add ?_
  | with_reducible refine z_sub ?_
  | with_reducible refine z_neg ?_
  | with_reducible refine z_un ?_
  | with_reducible refine z_eqI ?_
  | with_reducible refine z_neI ?_
  | with_reducible refine z_lt ?_
  | with_reducible refine z_le ?_
  | with_reducible refine z_gt ?_
  | with_reducible refine z_ge ?_
  | with_reducible refine z_not ?_
  | with_reducible refine z_and ?_
  | with_reducible refine z_or ?_
  | with_reducible refine z_andV ?_
  | with_reducible refine z_orV ?_
  | with_reducible refine z_notV ?_
  | with_reducible refine z_if ?_
  | with_reducible refine z_cb ?_
  | with_reducible refine z_int1 ?_
  | with_reducible refine z_intb ?_
  | with_reducible refine z_abs ?_
  | with_reducible refine z_gcd ?_
  | with_reducible refine z_isi_ii ?_
  | with_reducible refine z_isi_ib ?_
  | with_reducible refine z_next ?_
  | with_reducible refine z_drop ?_
  | with_reducible refine z_par ?_
  | with_reducible refine z_par2 ?_
  | with_reducible refine z_tupN ?_
  | with_reducible refine z_lstN ?_
  | ((with_reducible refine' z_nt ?zl1 ?_); (case zl1 => exact Nat.le_of_ble_eq_true rfl); intro p H' hp hs he)
  | ((with_reducible refine' z_gtup ?zl1 ?zl2 ?_); (case zl1 => walk_at "up"); (case zl2 => exact rfl))
  | with_reducible refine z_bk ?_
  | with_reducible refine z_ct ?_
  | with_reducible refine z_break ?_
  | with_reducible refine z_cont ?_
  | with_reducible refine z_retN ?_
  | with_reducible refine z_nn ?_
  | with_reducible refine z_mk ?_
  | with_reducible refine z_gn ?_
  | with_reducible refine z_gcons ?_
  | with_reducible refine z_gnil ?_
  | with_reducible refine z_mt ?_
  | with_reducible refine z_mko ?_
  | with_reducible refine z_for2 ?_
  | with_reducible refine z_ownI ?_
  | ((with_reducible refine' z_lenL ?zl1 ?_); (case zl1 => walk_at "up"))
  | ((with_reducible refine' z_ixT ?zl1 ?zl2 ?_); (case zl1 => walk_at "up"); (case zl2 => exact rfl))
  | ((with_reducible refine' z_mulL ?zl1 ?zl2 ?_); (case zl1 => omega); (case zl2 => omega))
  | ((with_reducible refine' z_mulR ?zl1 ?zl2 ?_); (case zl1 => omega); (case zl2 => omega))
  | ((with_reducible refine' z_divS ?zl1 ?zl2 ?_); (case zl1 => omega); (case zl2 => omega))
  | ((with_reducible refine' z_mulW ?zl1 ?zl2 ?zl3 ?zl4 ?_); (case zl1 => omega); (case zl2 => omega); (case zl3 => omega); (case zl4 => omega))
  | ((with_reducible refine' z_divW ?zl1 ?zl2 ?_); (case zl1 => omega); (case zl2 => omega)))
local macro_rules | `(tactic| walk_at "zz") => `(tactic| repeat (walk_at "z"))
local macro_rules | `(tactic| walk_at "z") => `(tactic| with_reducible refine z_lstN ?_)
local macro_rules | `(tactic| walk_at "z") => `(tactic| with_reducible refine z_p6 ?_)
local macro_rules | `(tactic| walk_at "z") => `(tactic| with_reducible refine z_p12 ?_)
local macro_rules | `(tactic| walk_at "z") => `(tactic| with_reducible refine z_p13 ?_)
local macro_rules | `(tactic| walk_at "z") => `(tactic| with_reducible refine z_calln ?_)
local macro_rules | `(tactic| walk_at "z") => `(tactic| with_reducible refine z_xfS ?_)
local macro_rules | `(tactic| walk_at "z") => `(tactic| with_reducible refine z_lcS ?_)
local macro_rules | `(tactic| walk_at "z") => `(tactic| with_reducible refine z_lcRS ?_)
local macro_rules | `(tactic| walk_at "z") => `(tactic| with_reducible refine z_lcZS ?_)
local macro_rules | `(tactic| walk_at "z") => `(tactic| with_reducible refine z_foS ?_)
local macro_rules | `(tactic| walk_at "z") => `(tactic| with_reducible refine z_for1 ?_)
local macro_rules | `(tactic| walk_at "z") => `(tactic| with_reducible refine z_tsl ?_)
local macro_rules | `(tactic| walk_at "z") => `(tactic| with_reducible refine z_np ?_)
local macro_rules | `(tactic| walk_at "z") => `(tactic| with_reducible refine z_pt ?_)
local macro_rules | `(tactic| walk_at "z") => `(tactic| with_reducible refine z_pti ?_)
local macro_rules | `(tactic| walk_at "z") => `(tactic| with_reducible refine z_catI ?_)
local macro_rules | `(tactic| walk_at "z") => `(tactic| with_reducible refine z_isNI ?_)
local macro_rules | `(tactic| walk_at "z") => `(tactic| with_reducible refine z_isNN ?_)
local macro_rules | `(tactic| walk_at "z") => `(tactic| with_reducible refine z_notNI ?_)
local macro_rules | `(tactic| walk_at "z") => `(tactic| with_reducible refine z_notNN ?_)
local macro_rules | `(tactic| walk_at "z") => `(tactic| with_reducible refine z_gsub ?_)
local macro_rules | `(tactic| walk_at "z") => `(tactic| with_reducible refine z_isNb ?_)
local macro_rules | `(tactic| walk_at "z") => `(tactic| with_reducible refine z_notNb ?_)
local macro_rules | `(tactic| walk_at "z") => `(tactic| ((with_reducible refine' z_nlR ?zl1 ?_); (case zl1 => exact Nat.le_of_ble_eq_true rfl); intro p H' hp hs he))
local macro_rules | `(tactic| walk_at "z") => `(tactic| ((with_reducible refine' z_repR ?zl1 ?zl2 ?_); (case zl1 => omega); (case zl2 => omega)))
local macro_rules | `(tactic| walk_at "z") => `(tactic| ((with_reducible refine' z_repL ?zl1 ?zl2 ?_); (case zl1 => omega); (case zl2 => omega)))
local macro_rules | `(tactic| walk_at "z") => `(tactic| ((with_reducible refine' z_lenLst ?zl1 ?_); (case zl1 => walk_at "up")))
local macro_rules | `(tactic| walk_at "z") => `(tactic| ((with_reducible refine' z_cat ?zl1 ?zl2 ?zl3 ?_); (case zl1 => walk_at "up"); (case zl2 => walk_at "up"); (case zl3 => (simp only [List.length_map, List.length_cons, List.length_nil, List.length_append, List.length_replicate]; omega)); intro p H' hp hs he))
local macro_rules | `(tactic| walk_at "z") => `(tactic| with_reducible refine z_sfl ?_)
local macro_rules | `(tactic| walk_at "z") => `(tactic| with_reducible refine z_lcES ?_)
local macro_rules | `(tactic| walk_at "z") => `(tactic| with_reducible refine z_lcMS ?_)
local macro_rules | `(tactic| walk_at "z") => `(tactic| with_reducible refine z_foES ?_)
local macro_rules | `(tactic| walk_at "z") => `(tactic| with_reducible refine z_fo3S ?_)
local macro_rules | `(tactic| walk_at "z") => `(tactic| with_reducible refine z_sta ?_)
local macro_rules | `(tactic| walk_at "z") => `(tactic| with_reducible refine z_sta1 ?_)
local macro_rules | `(tactic| walk_at "z") => `(tactic| with_reducible refine z_lcTS ?_)
local macro_rules | `(tactic| walk_at "z") => `(tactic| with_reducible refine z_foTS ?_)
local macro_rules | `(tactic| walk_at "z") => `(tactic| ((with_reducible refine' z_fldt ?zc1 ?zc2 ?zl1 ?zl2 ?_); (case zc1 => exact Lw.cl_Ratio (by assumption)); (case zc2 => exact Lw.na_Ratio_top (by assumption)); (case zl1 => exact rfl); (case zl2 => walk_at "up")))
local macro_rules | `(tactic| walk_at "z") => `(tactic| ((with_reducible refine' z_fldb ?zc1 ?zc2 ?zl1 ?zl2 ?_); (case zc1 => exact Lw.cl_Ratio (by assumption)); (case zc2 => exact Lw.na_Ratio_bottom (by assumption)); (case zl1 => exact rfl); (case zl2 => walk_at "up")))
local macro_rules | `(tactic| walk_at "z") => `(tactic| ((with_reducible refine' z_fldG ?zc1 ?zc2 ?zl0 ?zl1 ?zl2 ?_); (case zc1 => exact Lw.cl_Poly (by assumption)); (case zc2 => exact Lw.na_Poly_numbers (by assumption)); (case zl0 => exact rfl); (case zl1 => walk_at "up"); (case zl2 => exact lkA)))
local macro_rules | `(tactic| walk_at "z") => `(tactic| ((with_reducible refine' z_fldG ?zc1 ?zc2 ?zl0 ?zl1 ?zl2 ?_); (case zc1 => exact Lw.cl_Poly (by assumption)); (case zc2 => exact Lw.na_Poly_over (by assumption)); (case zl0 => exact rfl); (case zl1 => walk_at "up"); (case zl2 => exact lkO)))
local macro_rules | `(tactic| walk_at "z") => `(tactic| ((with_reducible refine' z_fldG ?zc1 ?zc2 ?zl0 ?zl1 ?zl2 ?_); (case zc1 => exact Lw.cl_Poly (by assumption)); (case zc2 => exact Lw.na_Poly_degree (by assumption)); (case zl0 => exact rfl); (case zl1 => walk_at "up"); (case zl2 => exact lkD)))
local macro_rules | `(tactic| walk_at "z") => `(tactic| ((with_reducible refine' z_isR ?zl1 ?zl2 ?zl3 ?_); (case zl1 => exact Lw.in_Ratio (by assumption)); (case zl2 => exact Lw.kt_Ratio_Ratio (by assumption)); (case zl3 => walk_at "up")))
local macro_rules | `(tactic| walk_at "z") => `(tactic| with_reducible refine z_revL ?_)
theorem same30t {H H1 H2 : Hp} (h : Same H1 H2) (e : Same H H1) : Same H H2 := e.trans h
local macro_rules | `(tactic| walk_at "sm") => `(tactic| first
  | assumption
  | exact fun _ _ h => h
  | (refine' same30t (by assumption) ?zsm; case zsm => walk_at "sm"))
local macro_rules | `(tactic| walk_at "bt") => `(tactic| first
  | assumption
  | exact fun _ _ _ h => h
  | (refine' But.trans ?zsm (by assumption); case zsm => walk_at "bt")
  | (refine' But.trans ?zsm (But.of (by assumption)); case zsm => walk_at "bt"))

open S31 (cf pb pb_succ)
open S30
theorem opK {X : Cx} {K : Frag} {f : Value → Value → Sem Value} (r : Frag → R2) (h : X.K = K) (c : OpR X f (r X.K)) : OpR X f (r K) := by subst h; exact c
/-- what the law's parts need, lists aside -/
structure Fx (K : Frag) (H : Hp) (poly r s pp q lo hi : Addr) (n : Nat) (P : Rat → Rat) (o l0 l1 h0 h1 : Int) : Prop where
  po : PQ K H poly n 20 P
  fr : IsV K H r ((l0 : Rat) / l1) 12
  la : IsV K H s ((h0 : Rat) / h1) 12
  pp : H pp = some (.tup [.ref q, .int o])
  lo : H lo = some (.tup [.int l0, .int l1])
  hi : H hi = some (.tup [.int h0, .int h1])
theorem Fx.monoN {K : Frag} {H H' : Hp} {poly r s pp q lo hi : Addr} {n : Nat} {P : Rat → Rat} {o l0 l1 h0 h1 : Int} (e : SameN H H') (h : Fx K H poly r s pp q lo hi n P o l0 l1 h0 h1) : Fx K H' poly r s pp q lo hi n P o l0 l1 h0 h1 := by
  obtain ⟨⟨ls, o', ⟨dx, t, a1, a2⟩, a3⟩, b, c, d, f, g⟩ := h
  exact ⟨⟨ls, o', ⟨dx, t, e _ _ a1 (fun _ z => nomatch z), e _ _ a2 (fun _ z => nomatch z)⟩, a3⟩, b.monoN e, c.monoN e, e _ _ d (fun _ z => nomatch z), e _ _ f (fun _ z => nomatch z), e _ _ g (fun _ z => nomatch z)⟩
theorem Fx.mono {K : Frag} {H H' : Hp} {poly r s pp q lo hi : Addr} {n : Nat} {P : Rat → Rat} {o l0 l1 h0 h1 : Int} (e : Same H H') (h : Fx K H poly r s pp q lo hi n P o l0 l1 h0 h1) : Fx K H' poly r s pp q lo hi n P o l0 l1 h0 h1 := h.monoN (SameN.of e)
/-- pairs against the empty list -/
theorem pb_dp {K : Frag} {H : Hp} : ∀ (xs : List V), (∀ x ∈ xs, ∃ (a : Addr) (t b : Int), x = .ref a ∧ H a = some (.tup [.int t, .int b])) → ∃ ds : List PyData, DpAll K H xs ds ∧ ds.length = xs.length ∧ PyData.canLayAll0 ds = true ∧ PyData.depthAll ds ≤ 1
  | [], _ => ⟨[], .nil, rfl, rfl, by decide⟩
  | x :: xs, h => by
    obtain ⟨ds, h1, h2, h3, h4⟩ := pb_dp (K := K) xs (fun y hy => h y (List.mem_cons_of_mem _ hy))
    obtain ⟨a, t, b, rfl, ha⟩ := h x (List.mem_cons_self ..)
    refine ⟨.tuple [.int t, .int b] :: ds, .cons (.tup (SqT.of ha) (.cons (.int t) (.cons (.int b) .nil))) h1, by simp [h2], ?_, ?_⟩
    · simp [PyData.canLayAll0, PyData.canLay0, h3]
    · simp [PyData.depthAll, PyData.depth]
      omega
theorem z_ne0 {K : Frag} {H : Hp} {Q : VK} {a e : Addr} {n B C : Nat} {v : Sq} (h : PB H a n v B C) (he : H e = some (.lst [])) (q : Q (.bl (!decide (n = 0))) H) : rNeD K (.ref a) (.ref e) H Q := by
  obtain ⟨xs, h1, h2, h3⟩ := h
  obtain ⟨ds, e1, e2, e3, e4⟩ := pb_dp (K := K) (H := H) xs (fun x hx => by
    obtain ⟨k, hk, rfl⟩ := List.mem_iff_getElem.mp hx
    obtain ⟨a, t, b, ex, ha, _⟩ := h3 k _ (List.getElem?_eq_getElem hk)
    exact ⟨a, t, b, ex, ha⟩)
  refine ⟨.list ds, .list [], .lst (SqL.of h1) e1, .lst (SqL.of he) .nil, ?_, ?_, ?_⟩
  · show (PyData.canLay0 (.list ds) && decide ((PyData.list ds).depth ≤ 64)) = true
    have : (PyData.list ds).depth ≤ 64 := by
      show PyData.depthAll ds + 1 ≤ 64
      omega
    rw [decide_eq_true this, Bool.and_true]
    simpa [PyData.canLay0] using e3
  · decide
  · have : PyData.eqv (.list ds) (.list []) = decide (n = 0) := by
      cases ds with
      | nil => 
        have : n = 0 := by simpa [h2] using e2.symm
        subst this
        rfl
      | cons d ds =>
        have : n ≠ 0 := by
          simp at e2
          omega
        rw [decide_eq_false this]
        rfl
    rw [this]
    exact q
theorem RL.at {K : Frag} {H : Hp} {l : Addr} {n B k : Nat} {v : Sq} (h : RL K H l n v B) (hk : k < n) : ∃ (xs : List V) (a : Addr), H l = some (.lst xs) ∧ xs.length = n ∧ xs[k]? = some (.ref a) ∧ IsV K H a (v k) B := by
  obtain ⟨xs, h1, h2, h3⟩ := h
  obtain ⟨a, e, ha⟩ := h3 k _ (List.getElem?_eq_getElem (by omega))
  exact ⟨xs, a, h1, h2, by rw [List.getElem?_eq_getElem (by omega), e], ha⟩
theorem at_end {xs : List V} {n : Nat} {x : V} (hn : xs.length = n) (n1 : 1 ≤ n) (h : xs[n - 1]? = some x) : atI xs (-1) = some x := by
  have e : ∃ ys, xs = ys ++ [x] := ⟨xs.take (n - 1), by
    refine List.ext_getElem? fun k => ?_
    by_cases c : k < n - 1
    · rw [List.getElem?_append_left (by simp; omega), List.getElem?_take, if_pos c]
    · rw [List.getElem?_append_right (by simp; omega)]
      by_cases c2 : k = n - 1
      · rw [c2, h]
        simp [hn]
      · rw [List.getElem?_eq_none (by omega), List.getElem?_eq_none (by simp; omega)]⟩
  obtain ⟨ys, rfl⟩ := e
  exact atI_last _ _
theorem Ls.sameN {H H' : Hp} {p l : Addr} {n : Nat} {It : Hp → V → Nat → Prop} (m : Mono It) (sn : SameN H H') (b : But p H H') (ne : l ≠ p) (h : Ls H l n It) : Ls H' l n It := by
  obtain ⟨xs, h1, h2, h3⟩ := h
  exact ⟨xs, b _ _ ne h1, h2, fun k x q => m _ _ _ _ sn (h3 k x q)⟩
theorem way_at {k : Nat} {x : V} (h : [V.int 1, V.int (-1)][k]? = some x) : x = .int 1 ∨ x = .int (-1) := by
  match k, h with
  | 0, h => cases h; exact .inl rfl
  | 1, h => cases h; exact .inr rfl
theorem m60 {m : Nat} (h : m ≤ 60) : m * (m * 2 + 61) ≤ 60000 := Nat.le_trans (Nat.mul_le_mul h (show m * 2 + 61 ≤ 181 by omega)) (by decide)
theorem m240 {n : Nat} (h : n ≤ 13) : n * (n * 240 + 61) ≤ 60000 := Nat.le_trans (Nat.mul_le_mul h (show n * 240 + 61 ≤ 3181 by omega)) (by decide)
theorem hb12 {a b c d : Int} (a0 : -4 ≤ a) (a1 : a ≤ 4) (b0 : 1 ≤ b) (b1 : b ≤ 3) (c0 : -12 ≤ c) (c1 : c ≤ 27) (d0 : 1 ≤ d) (d1 : d ≤ 9) : Bits 12 (a * d + c * b) ∧ Bits 12 (2 * b * d) := by
  have h : b = 1 ∨ b = 2 ∨ b = 3 := by omega
  have q : -40 < a * d ∧ a * d < 40 := by
    have h : d = 1 ∨ d = 2 ∨ d = 3 ∨ d = 4 ∨ d = 5 ∨ d = 6 ∨ d = 7 ∨ d = 8 ∨ d = 9 := by omega
    rcases h with rfl | rfl | rfl | rfl | rfl | rfl | rfl | rfl | rfl <;> omega
  rcases h with rfl | rfl | rfl <;> exact ⟨Bits.small (n := 12) (by show -(4096 : Int) < _; omega) (by show _ < (4096 : Int); omega), Bits.small (n := 12) (by show -(4096 : Int) < _; omega) (by show _ < (4096 : Int); omega)⟩
theorem z_neI {K : Frag} {H : Hp} {Q : VK} {i : Int} (q : Q (.bl false) H) : rNeD K (.int i) (.int i) H Q := by
  refine ⟨.int i, .int i, .int i, .int i, rfl, rfl, ?_⟩
  have : PyData.eqv (.int i) (.int i) = true := by simp [PyData.eqv]
  rw [this]
  exact q
theorem z_st {t : TS} {D : Ends} {σ σ' : L2.St} {H : Hp} (e : σ = σ') (q : t D σ' H) : t D σ H := by
  rw [e]
  exact q
def zCut (A B : TS) (D : Ends) (σ : L2.St) (H : Hp) : Prop := tSeq A B D σ H
theorem z_cutS {K : Frag} {t B : TS} {D : Ends} {σ : L2.St} {H : Hp} {i : Nat} (q : zCut (tIfS (tTest (tOp (rNeD K) (tVar i) (tLst tNil))) t tNext) B D σ H) : tSeq (tIfS (tTest (tOp (rNeD K) (tVar i) (tLst tNil))) t tNext) B D σ H := q
theorem z_cut {A B : TS} {D : Ends} {σ : L2.St} {H : Hp} (I : L2.St → Hp → Prop) (h1 : ∀ σ' H', I σ' H' → B D σ' H') (h2 : ∀ R : L2.St → Hp → Prop, (∀ σ' H', I σ' H' → R σ' H') → A { D with nx := R } σ H) : zCut A B D σ H := h2 _ h1
theorem br5 {a b : Int} (ha : 1 ≤ a ∧ a ≤ 3) (hb : 1 ≤ b ∧ b ≤ 9) : Bits 5 (a * b) := by
  have h : a = 1 ∨ a = 2 ∨ a = 3 := by omega
  rcases h with rfl | rfl | rfl <;> exact Bits.small (n := 5) (by show -(32 : Int) < _; omega) (by show _ < (32 : Int); omega)
theorem bs {B : Nat} {i : Int} (hB : 9 ≤ B) (h : -500 < i ∧ i < 500) : Bits B i := Bits.up (Bits.small (n := 9) (by show -(512 : Int) < _; omega) (by show _ < (512 : Int); omega)) hB
local macro_rules | `(tactic| walk_at "up") => `(tactic| first
  | assumption
  | (with_reducible refine' IsPool.mono (by assumption) ?zup; case zup => walk_at "up")
  | (with_reducible refine' IsR.mono (by assumption) ?zup; case zup => walk_at "up")
  | (with_reducible refine' IsV.mono (by assumption) ?zup; case zup => walk_at "up")
  | (with_reducible refine' IsQ.mono (by assumption) ?zup; case zup => walk_at "up")
  | (with_reducible refine' PQ.mono (by assumption) ?zup; case zup => walk_at "up")
  | (with_reducible refine' RL.mono (by assumption) ?zup; case zup => walk_at "up")
  | (with_reducible refine' PL.mono (by assumption) ?zup; case zup => walk_at "up")
  | (with_reducible refine' RB.mono (by assumption) ?zup; case zup => walk_at "up")
  | (with_reducible refine' PB.mono (by assumption) ?zup; case zup => walk_at "up")
  | (with_reducible refine' Fx.mono (by assumption) ?zup; case zup => walk_at "up")
  | (with_reducible refine' Same.at (by assumption) ?zup; case zup => walk_at "up")
  | (with_reducible refine' But.at (by assumption) ?zne ?zup; (case zne => (first | assumption | exact Ne.symm (by assumption))); (case zup => walk_at "up"))
  | (with_reducible refine' IsPool.of ?zup; case zup => walk_at "up")
  | fail)
local macro_rules | `(tactic| walk_at "z") => `(tactic| with_reducible refine z_bm ?_)
local macro_rules | `(tactic| walk_at "z") => `(tactic| with_reducible refine z_cutS ?_)
local macro_rules | `(tactic| walk_at "z") => `(tactic| ((with_reducible refine' u_take ?zl1 ?zl2 ?zl3 ?zl4 ?_); (case zl1 => walk_at "up"); (case zl2 => omega); (case zl3 => omega); (case zl4 => omega); intro r H' r0 r1 hP hB))
local macro_rules | `(tactic| walk_at "z") => `(tactic| ((with_reducible refine' u_turn ?zl1 ?zl2 ?zl3 ?zl4 ?_); (case zl1 => walk_at "up"); (case zl2 => omega); (case zl3 => omega); (case zl4 => omega); intro r H' r0 r1 hP hB))
section
variable {P : Program} {w : World} {K : Frag} {mg : Str → Option Value} {base : Heap}
theorem ok_law (L : Lw K mg) {fd : FuncData} (F : FunD K "law" "law" (defArgs s_law) (defBody s_law) (defScope s_law) (df_law.dvs K) (df_law.kws K) (He.fAd K ("law", none)) fd) : FnOk P w K mg base (L2N.CX P w) 12 (He.fAd K ("law", none)) fd (["script"] : List Str) (sp1 (fs_law K)) := by
  refine FunD.ok F sc_law len1 (fun cdv A outer s H vs Q E hr h => ?_)
  obtain ⟨a, rfl, h⟩ := h
  refine ⟨_, (pss_cons (ps_set (i := 1) sc_law.nd rfl (by first | exact Or.inl rfl | exact Or.inr rfl) (pe_callTy (callK rList1 (K := K) rfl o_list1) (by rfl) L.f_list (by decide +kernel) (pa_cons (pe_slice (slK rSlL (K := K) rfl sl_list) (pv 0) po_none (po_some pe_int)) pa_nil)))
    (pss_cons (ps_asg (pe_c (c_law_world (K := K) L) hr (by decide) (L2N.takes_of rfl rfl rfl rfl) (pa_cons (pv 1) pa_nil)) (pg_tup (by rfl) (pgs_cons (pg_name (i := 2) sc_law.nd rfl (by first | exact Or.inl rfl | exact Or.inr rfl)) (pgs_cons (pg_name (i := 3) sc_law.nd rfl (by first | exact Or.inl rfl | exact Or.inr rfl)) (pgs_cons (pg_name (i := 4) sc_law.nd rfl (by first | exact Or.inl rfl | exact Or.inr rfl)) pgs_nil)))))
    (pss_cons (ps_set (i := 5) sc_law.nd rfl (by first | exact Or.inl rfl | exact Or.inr rfl) (pe_mk (c_PolyD_initD (K := K) L) hr (by decide) (L2N.takes_of rfl rfl rfl rfl) (pa_cons (pe_callTy (callK rList1 (K := K) rfl o_list1) (by rfl) L.f_list (by decide +kernel) (pa_cons (pe_ix (ix_seqK (K := K) rfl) (pv 2) pe_int (fun _ _ => rfl)) pa_nil)) (pa_cons (pe_ix (ix_seqK (K := K) rfl) (pv 2) pe_int (fun _ _ => rfl)) pa_nil))))
    (pss_cons (ps_set (i := 6) sc_law.nd rfl (by first | exact Or.inl rfl | exact Or.inr rfl) (pe_mk (c_RatioD_initD (K := K) L) hr (by decide) (L2N.takes_of rfl rfl rfl rfl) (pa_cons (pe_ix (ix_seqK (K := K) rfl) (pv 3) pe_int (fun _ _ => rfl)) (pa_cons (pe_ix (ix_seqK (K := K) rfl) (pv 3) pe_int (fun _ _ => rfl)) pa_nil))))
    (pss_cons (ps_set (i := 7) sc_law.nd rfl (by first | exact Or.inl rfl | exact Or.inr rfl) (pe_mk (c_RatioD_initD (K := K) L) hr (by decide) (L2N.takes_of rfl rfl rfl rfl) (pa_cons (pe_ix (ix_seqK (K := K) rfl) (pv 4) pe_int (fun _ _ => rfl)) (pa_cons (pe_ix (ix_seqK (K := K) rfl) (pv 4) pe_int (fun _ _ => rfl)) pa_nil))))
    (pss_cons (ps_set (i := 8) sc_law.nd rfl (by first | exact Or.inl rfl | exact Or.inr rfl) (pe_c (c_law_corners (K := K) L) hr (by decide) (L2N.takes_of rfl rfl rfl rfl) (pa_cons (pv 2) (pa_cons (pv 3) (pa_cons (pv 4) pa_nil)))))
    (pss_cons (ps_set (i := 9) sc_law.nd rfl (by first | exact Or.inl rfl | exact Or.inr rfl) (pe_c (c_corner_numbers (K := K) L) hr (by decide) (L2N.takes_of rfl rfl rfl rfl) (pa_cons (pv 5) (pa_cons (pv 6) (pa_cons (pv 7) pa_nil)))))
    (pss_cons (ps_if (pt_not (pt_val (pe_c (c_law_are (K := K) L) hr (by decide) (L2N.takes_of rfl rfl rfl rfl) (pa_cons (pv 9) (pa_cons (pv 8) pa_nil))))) (pss_one (ps_ret pe_bl)) pss_nil)
    (pss_cons (ps_if (pt_cmpR (opK rNeD (K := K) rfl (op_neD (Room.units hr))) (pv 8) (pe_lst pa_nil) (nomark _)) (pss_cons (ps_set (i := 10) sc_law.nd rfl (by first | exact Or.inl rfl | exact Or.inr rfl) (pe_c (c_law_value (K := K) L) hr (by decide) (L2N.takes_of rfl rfl rfl rfl) (pa_cons (pv 2) (pa_cons (pv 3) pa_nil))))
    (pss_cons (ps_if (pt_not (pt_val (pe_c (c_law_is (K := K) L) hr (by decide) (L2N.takes_of rfl rfl rfl rfl) (pa_cons (pe_ix (ix_seqK (K := K) rfl) (pv 9) pe_int (fun _ _ => rfl)) (pa_cons (pe_ix (ix_seqK (K := K) rfl) (pv 10) pe_int (fun _ _ => rfl)) (pa_cons (pe_ix (ix_seqK (K := K) rfl) (pv 10) pe_int (fun _ _ => rfl)) pa_nil)))))) (pss_one (ps_ret pe_bl)) pss_nil)
    (pss_cons (ps_set (i := 10) sc_law.nd rfl (by first | exact Or.inl rfl | exact Or.inr rfl) (pe_c (c_law_value (K := K) L) hr (by decide) (L2N.takes_of rfl rfl rfl rfl) (pa_cons (pv 2) (pa_cons (pv 4) pa_nil))))
    (pss_cons (ps_if (pt_not (pt_val (pe_c (c_law_is (K := K) L) hr (by decide) (L2N.takes_of rfl rfl rfl rfl) (pa_cons (pe_ix (ix_seqK (K := K) rfl) (pv 9) (pe_un o_neg pe_int) (fun _ _ => rfl)) (pa_cons (pe_ix (ix_seqK (K := K) rfl) (pv 10) pe_int (fun _ _ => rfl)) (pa_cons (pe_ix (ix_seqK (K := K) rfl) (pv 10) pe_int (fun _ _ => rfl)) pa_nil)))))) (pss_one (ps_ret pe_bl)) pss_nil)
    (pss_cons (ps_if (pt_not (pt_val (pe_c (c_law_halved (K := K) L) hr (by decide) (L2N.takes_of rfl rfl rfl rfl) (pa_cons (pv 8) pa_nil)))) (pss_one (ps_ret pe_bl)) pss_nil)
    (pss_cons (ps_set (i := 11) sc_law.nd rfl (by first | exact Or.inl rfl | exact Or.inr rfl) (pe_c (c_law_halves (K := K) L) hr (by decide) (L2N.takes_of rfl rfl rfl rfl) (pa_cons (pv 8) pa_nil)))
    (pss_cons (ps_set (i := 12) sc_law.nd rfl (by first | exact Or.inl rfl | exact Or.inr rfl) (pe_op o_cat (pe_op o_rep (pe_ix (ix_seqK (K := K) rfl) (pv 3) pe_int (fun _ _ => rfl)) (pe_ix (ix_seqK (K := K) rfl) (pv 4) pe_int (fun _ _ => rfl))) (pe_op o_rep (pe_ix (ix_seqK (K := K) rfl) (pv 4) pe_int (fun _ _ => rfl)) (pe_ix (ix_seqK (K := K) rfl) (pv 3) pe_int (fun _ _ => rfl)))))
    (pss_cons (ps_set (i := 13) sc_law.nd rfl (by first | exact Or.inl rfl | exact Or.inr rfl) (pe_mk (c_RatioD_initD (K := K) L) hr (by decide) (L2N.takes_of rfl rfl rfl rfl) (pa_cons (pv 12) (pa_cons (pe_op o_rep (pe_op o_rep pe_int (pe_ix (ix_seqK (K := K) rfl) (pv 3) pe_int (fun _ _ => rfl))) (pe_ix (ix_seqK (K := K) rfl) (pv 4) pe_int (fun _ _ => rfl))) pa_nil))))
    (pss_cons (ps_if (pt_not (pt_val (pe_c (c_law_are (K := K) L) hr (by decide) (L2N.takes_of rfl rfl rfl rfl) (pa_cons (pe_c (c_corner_numbers (K := K) L) hr (by decide) (L2N.takes_of rfl rfl rfl rfl) (pa_cons (pv 5) (pa_cons (pv 6) (pa_cons (pv 13) pa_nil)))) (pa_cons (pe_ix (ix_seqK (K := K) rfl) (pv 11) pe_int (fun _ _ => rfl)) pa_nil))))) (pss_one (ps_ret pe_bl)) pss_nil)
    (pss_one (ps_if (pt_not (pt_val (pe_c (c_law_are (K := K) L) hr (by decide) (L2N.takes_of rfl rfl rfl rfl) (pa_cons (pe_c (c_corner_numbers (K := K) L) hr (by decide) (L2N.takes_of rfl rfl rfl rfl) (pa_cons (pv 5) (pa_cons (pv 13) (pa_cons (pv 7) pa_nil)))) (pa_cons (pe_ix (ix_seqK (K := K) rfl) (pv 11) pe_int (fun _ _ => rfl)) pa_nil))))) (pss_one (ps_ret pe_bl)) pss_nil))))))))))) pss_nil)
    (pss_cons (ps_expr (pe_bm PySem.F.plainAttrs_list PySem.F.slot_list_append PySem.F.type_list_append mt_append (pv 9) (pa_cons (pv 6) pa_nil)))
    (pss_cons (ps_if (pt_not (pt_val (pe_c (c_law_are (K := K) L) hr (by decide) (L2N.takes_of rfl rfl rfl rfl) (pa_cons (pe_c (c_corner_numbers (K := K) L) hr (by decide) (L2N.takes_of rfl rfl rfl rfl) (pa_cons (pv 5) (pa_cons (pv 6) (pa_cons (pv 7) pa_nil)))) (pa_cons (pv 8) pa_nil))))) (pss_one (ps_ret pe_bl)) pss_nil)
    (pss_cons (ps_for (passes_of rfl) rfl (pi_listK (K := K) rfl (pe_lst (pa_cons pe_int (pa_cons (pe_un o_neg pe_int) pa_nil)))) (pg_name (i := 14) sc_law.nd rfl (by first | exact Or.inl rfl | exact Or.inr rfl)) (pss_cons (ps_asg (pe_c (c_law_along (K := K) L) hr (by decide) (L2N.takes_of rfl rfl rfl rfl) (pa_cons (pv 2) (pa_cons (pe_ix (ix_seqK (K := K) rfl) (pv 3) pe_int (fun _ _ => rfl)) (pa_cons (pe_op o_rep (pv 14) (pe_ix (ix_seqK (K := K) rfl) (pv 3) pe_int (fun _ _ => rfl))) (pa_cons (pe_ix (ix_seqK (K := K) rfl) (pv 3) pe_int (fun _ _ => rfl)) pa_nil))))) (pg_tup (by rfl) (pgs_cons (pg_name (i := 15) sc_law.nd rfl (by first | exact Or.inl rfl | exact Or.inr rfl)) (pgs_cons (pg_name (i := 16) sc_law.nd rfl (by first | exact Or.inl rfl | exact Or.inr rfl)) pgs_nil))))
    (pss_cons (ps_setLc (i := 17) (own := [("one", 18)]) (g := (gName 18)) (tt := tYes) rfl sc_law.nd rfl rfl (sw_true rfl rfl rfl (by decide +kernel)) (pi_listK (K := K) rfl (pv 15)) (blkOk_by (N := ["script", "pool", "p", "low", "high", "poly", "first", "last", "due", "told", "value", "halves", "middle", "half", "way", "moved", "over", "ends", "one"]) (sc := defScope s_law) (by decide +kernel)) (fun _ _ _ _ _ => pg_name (i := 18) sc_law.nd rfl (Or.inl rfl)) (fun _ _ _ _ _ => pts_nil) (fun _ _ _ _ _ => (pe_tup (pa_cons (pv 18) (pa_cons (pv 16) pa_nil)))))
    (pss_one (ps_if (pt_not (pt_val (pe_c (c_law_are (K := K) L) hr (by decide) (L2N.takes_of rfl rfl rfl rfl) (pa_cons (pe_c (c_end_numbers (K := K) L) hr (by decide) (L2N.takes_of rfl rfl rfl rfl) (pa_cons (pv 5) (pa_cons (pv 6) (pa_cons (pe_cmpR op_eq (pv 14) pe_int (nomark _)) pa_nil)))) (pa_cons (pv 17) pa_nil))))) (pss_one (ps_ret pe_bl)) pss_nil)))))
    (pss_cons (ps_if (pt_not (pt_val (pe_c (c_law_halved (K := K) L) hr (by decide) (L2N.takes_of rfl rfl rfl rfl) (pa_cons (pe_c (c_law_list (K := K) L) hr (by decide) (L2N.takes_of rfl rfl rfl rfl) (pa_cons (pv 1) pa_nil)) pa_nil)))) (pss_one (ps_ret pe_bl)) pss_nil)
    (pss_cons (ps_if (PW.pt (pw_or (pt_cmpR (opK rNeD (K := K) rfl (op_neD (Room.units hr))) (pe_c (c_law_size (K := K) L) hr (by decide) (L2N.takes_of rfl rfl rfl rfl) (pa_cons (pv 6) (pa_cons pe_int pa_nil))) pe_int (nomark _)) (pw_or1 (pt_cmpR (opK rNeD (K := K) rfl (op_neD (Room.units hr))) (pe_c (c_law_size (K := K) L) hr (by decide) (L2N.takes_of rfl rfl rfl rfl) (pa_cons (pv 6) (pa_cons pe_int pa_nil))) pe_int (nomark _))))) (pss_one (ps_ret pe_bl)) pss_nil)
    (pss_cons (ps_if (pt_not (pt_val (pe_c (c_law_crossed (K := K) L) hr (by decide) (L2N.takes_of rfl rfl rfl rfl) (pa_cons (pv 5) (pa_cons (pv 3) (pa_cons (pv 3) pa_nil)))))) (pss_one (ps_ret pe_bl)) pss_nil)
    (pss_one (ps_ret (pe_c (c_law_crossed (K := K) L) hr (by decide) (L2N.takes_of rfl rfl rfl rfl) (pa_cons (pv 5) (pa_cons (pv 4) (pa_cons (pv 3) pa_nil))))))))))))))))))))), ?_⟩
  obtain ⟨ap, ss, rfl, hS, hl, k⟩ := h
  refine z_st (σ' := [some (.ref ap), none, none, none, none, none, none, none, none, none, none, none, none, none, none, none, none, none, none]) rfl ?_
  walk_at "zz"
  refine z_slL hS (fun sc hsc s0 es => ?_)
  generalize upd H sc (.lst (cutV (ss.map V.int) none (some 63))) = H0 at *
  rw [cut63 hl] at es
  walk_at "zz"
  refine z_listL es (fun p Hl hpl sl el => ?_)
  have hPl : IsPool Hl p := ⟨_, el⟩
  walk_at "zz"
  refine ⟨_, rfl, p, rfl, hPl, fun t pp q lo hi H1 ns o l0 l1 h0 h1 hP1 hB1 et epp eq neq elo ehi wk => ?_⟩
  obtain ⟨n13, o0, ob, nb, ntop, a0, a1, b0, b1, c0, c1, d0, d1, lt⟩ := wk
  obtain ⟨n, hn⟩ : ∃ n, ns.length = n := ⟨_, rfl⟩
  rw [hn] at n13
  have vw := lt_frac (show 0 < l1 by omega) (show 0 < h1 by omega) lt
  try dsimp only [List.set]
  walk_at "zz"
  refine z_listL (SqL.of eq) (fun q2 H2 hq2 s2 eq2 => ?_)
  try dsimp only [List.set]
  walk_at "zz"
  refine u_mkP eq2 (by omega) (by omega) (ob.up (by decide)) (fun poly H3 ls o3 s3 hpoly lw => ?_)
  have hPQ : PQ K H3 poly n 20 (fun x => S30.E (cr ns o) x n) := PQ.of hpoly lw o0 hn (ob.up (by decide)) nb (fun m hm => ntop m (hn.trans hm)) (fun x => rfl)
  try dsimp only [List.set]
  walk_at "zz"
  refine u_mkR (by omega) (bs (by decide) ⟨by omega, by omega⟩) (fun r H4 s4 hr4 => ?_)
  have hfr := z_foIs (B := 12) hr4 (by omega) (bs (by decide) ⟨by omega, by omega⟩) (bs (by decide) ⟨by omega, by omega⟩)
  try dsimp only [List.set]
  walk_at "zz"
  refine u_mkR (by omega) (bs (by decide) ⟨by omega, by omega⟩) (fun s H5 s5 hr5 => ?_)
  have hla := z_foIs (B := 12) hr5 (by omega) (bs (by decide) ⟨by omega, by omega⟩) (bs (by decide) ⟨by omega, by omega⟩)
  have fx5 : Fx K H5 poly r s pp q lo hi n (fun x => S30.E (cr ns o) x n) o l0 l1 h0 h1 := ⟨by walk_at "up", by walk_at "up", hla, by walk_at "up", by walk_at "up", by walk_at "up"⟩
  have eq5 : H5 q = some (.lst (ns.map V.int)) := by walk_at "up"
  have hP5 : IsPool H5 p := by walk_at "up"
  clear hr4 hr5 hpoly lw hPQ hfr hla epp elo ehi eq2 et es hS hl hP1 hB1 hPl el eq s2 s3 s4 s5 sl s0
  have bl0 : Bits 12 l0 := bs (by decide) ⟨by omega, by omega⟩
  have bl1 : Bits 12 l1 := bs (by decide) ⟨by omega, by omega⟩
  have bh0 : Bits 12 h0 := bs (by decide) ⟨by omega, by omega⟩
  have bh1 : Bits 12 h1 := bs (by decide) ⟨by omega, by omega⟩
  try dsimp only [List.set]
  walk_at "zz"
  refine ⟨_, _, _, rfl, pp, q, lo, hi, ns, o, l0, l1, h0, h1, n, rfl, rfl, rfl, fx5.pp, eq5, fx5.lo, fx5.hi, hn, n13, o0, ob, nb, bs (by decide) ⟨by omega, by omega⟩, bs (by decide) ⟨by omega, by omega⟩, bs (by decide) ⟨by omega, by omega⟩, bs (by decide) ⟨by omega, by omega⟩, by omega, by omega, br5 ⟨b0, b1⟩ ⟨d0, d1⟩, fun due H6 A s6 eA hdue => ?_⟩
  have fx6 := fx5.mono s6
  try dsimp only [List.set]
  walk_at "zz"
  refine ⟨_, _, _, rfl, poly, r, s, n, _, _, _, rfl, rfl, rfl, fx6.po, n13, fx6.fr, fx6.la, fun _ told H7 B s7 eB htold ntold => ?_, fun c => absurd vw c⟩
  have fx7 := fx6.mono s7
  have hdue7 := hdue.mono s7
  have eq7 : H7 q = some (.lst (ns.map V.int)) := by walk_at "up"
  have hP7 : IsPool H7 p := by walk_at "up"
  have nqt : q ≠ told := ne_of_none (s6 _ _ eq5) ntold
  have nyt : p ≠ told := (IsPool.ne (hP5.mono s6) ntold).symm
  have ndt : due ≠ told := by
    obtain ⟨_, hd1, _⟩ := hdue
    exact ne_of_none hd1 ntold
  clear eq5 hP5 fx5 fx6 hdue
  try dsimp only [List.set]
  walk_at "zz"
  refine u_are (htold.imp (Nat.le_refl _) (fun k hk => cn_same eB eA hk)) (hdue7.toL (by decide) (by decide) (fun _ _ => rfl)) (by decide) (by omega) ?_
  try dsimp only [List.set]
  walk_at "zz"
  refine z_cut (fun σ' HX => ∃ (x0 x10 x11 x12 x13 x14 x15 x16 x17 x18 : Option V), σ' = [x0, some (.ref p), some (.ref pp), some (.ref lo), some (.ref hi), some (.ref poly), some (.ref r), some (.ref s), some (.ref due), some (.ref told), x10, x11, x12, x13, x14, x15, x16, x17, x18] ∧ Fx K HX poly r s pp q lo hi n (fun x => S30.E (cr ns o) x n) o l0 l1 h0 h1 ∧ PB HX due n (cn (n - 1) A) 2000 240 ∧ RL K HX told n (cn (n - 1) B) 8000 ∧ HX q = some (.lst (ns.map V.int)) ∧ IsPool HX p) ?_ ?_
  · rintro σ' HX ⟨x0, x10, x11, x12, x13, x14, x15, x16, x17, x18, rfl, fxX, hdueX, htoldX, eqX, hPX⟩
    clear fx7 hdue7 htold eq7 hP7 ntold
    try dsimp only [List.set]
    walk_at "zz"
    obtain ⟨ts, hts, lts, _⟩ := htoldX
    refine z_bml hts ?_
    try dsimp only [List.set]
    walk_at "zz"
    refine z_ap hts (by omega) ?_
    have snX := SameN.put (ys := ts ++ [V.ref r]) hts
    have btX : But told HX (upd HX told (.lst (ts ++ [V.ref r]))) := fun a u ne ha => by rw [upd_ne ne]; exact ha
    have fxY := fxX.monoN snX
    have hdueY : PB _ due n (cn (n - 1) A) 2000 240 := Ls.sameN itPB_mono snX btX ndt hdueX
    have eqY := btX _ _ nqt eqX
    have hPY := IsPool.put (o := .lst (ts ++ [V.ref r])) hPX nyt.symm
    generalize upd HX told (.lst (ts ++ [V.ref r])) = HY at *
    clear snX btX fxX hdueX eqX hPX hts
    try dsimp only [List.set]
    walk_at "zz"
    refine ⟨_, _, _, rfl, poly, r, s, n, _, _, _, rfl, rfl, rfl, fxY.po, n13, fxY.fr, fxY.la, fun _ told2 HZ B2 sZ eB2 htold2 _ => ?_, fun c => absurd vw c⟩
    try dsimp only [List.set]
    walk_at "zz"
    refine u_are (htold2.imp (Nat.le_refl _) (fun k hk => cn_same eB2 eA hk)) ((hdueY.mono sZ).toL (by decide) (by decide) (fun _ _ => rfl)) (by decide) (by omega) ?_
    try dsimp only [List.set]
    walk_at "zz"
    rename_i w HW hw sW ew
    have fxW := (fxY.mono sZ).mono sW
    have eqW := sW _ _ (sZ _ _ eqY)
    have hPW := (hPY.mono sZ).mono sW
    clear fxY hdueY eqY hPY htold2
    refine z_foV ew (fun k σ' H' => ∃ (x0 x8 x9 x10 x11 x12 x13 x14 x15 x16 x17 x18 : Option V), σ' = [x0, some (.ref p), some (.ref pp), some (.ref lo), some (.ref hi), some (.ref poly), some (.ref r), some (.ref s), x8, x9, x10, x11, x12, x13, x14, x15, x16, x17, x18] ∧ Same HW H') ⟨_, _, _, _, _, _, _, _, _, _, _, _, rfl, fun _ _ h => h⟩ (fun k σ' H' z => by obtain ⟨_, _, _, _, _, _, _, _, _, _, _, _, _, s⟩ := z; exact s _ _ ew) ?_ ?_
    · rintro i x σ' H' hx ⟨x0, x8, x9, x10, x11, x12, x13, x14, x15, x16, x17, x18, rfl, sH⟩
      have fxH := fxW.mono sH
      have eqH := sH _ _ eqW
      rcases way_at hx with rfl | rfl
      · have elH := fxH.lo
        have ehH := fxH.hi
        try dsimp only [List.set]
        walk_at "zz"
        refine ⟨_, _, _, _, rfl, pp, q, ns, o, l0, 1 * l1, l1, n, 20, rfl, rfl, rfl, rfl, fxH.pp, eqH, hn, n13, o0, ob.up (by decide), nb, by decide, bl0.up (by decide), bs (by decide) ⟨by omega, by omega⟩, bl1.up (by decide), by omega, fun t2 l2 H9 ms s9 et2 el2 lms bms ems => ?_⟩
        have ov0 : 0 < o * l1 ^ (n - 1) := Int.mul_pos o0 (Int.pow_pos (by omega))
        have ovb : Bits 8000 (o * l1 ^ (n - 1)) := Bits.up (ob.mul (Bits.pow bl1 (n - 1))) (by omega)
        generalize o * l1 ^ (n - 1) = mo at *
        try dsimp only [List.set]
        walk_at "zz"
        refine z_lcVP (itP (cr ms mo) 8000) itP_mono el2 (by rw [List.length_map]; omega) (fun j x H4 N hx s4 c4 => ⟨rfl, ?_⟩) (fun D HD hD sD hlD => ?_)
        · obtain ⟨hj, rfl⟩ := map_at hx
          try dsimp only [List.set]
          walk_at "zz"
          rename_i tu Hu hu su eu
          refine c4 _ _ su ⟨tu, cf ms j, mo, rfl, eu, ov0, (bms j).up (by decide), ovb, ?_⟩
          have := ne_cast (show mo ≠ 0 by omega)
          show (cf ms j : Rat) = (cf ms j : Rat) / (mo : Rat) * (mo : Rat)
          grind
        · rw [List.length_map, lms] at hlD
          try dsimp only [List.set]
          walk_at "zz"
          refine ⟨_, _, _, rfl, poly, r, n, _, _, true, rfl, rfl, rfl, (fxH.mono (s9.trans sD)).po, n13, (fxH.mono (s9.trans sD)).fr, fun l3 H10 A3 s10 eA3 hl3 => ?_⟩
          have hlD2 : PL H10 D n (cr ms mo) 8000 := PL.mono s10 hlD
          try dsimp only [List.set]
          walk_at "zz"
          refine u_are (hl3.imp (Nat.le_refl _) (fun k hk => E_same (fun x _ => ?_) k hk)) hlD2 (by decide) (by omega) ?_
          · rw [eA3, ems, ways (s := 1) (by omega) (by rfl)]
            rw [if_pos rfl]
          try dsimp only [List.set]
          walk_at "zz"
          exact ⟨_, _, _, _, _, _, _, _, _, _, _, _, rfl, by walk_at "sm"⟩
      · have elH := fxH.lo
        have ehH := fxH.hi
        try dsimp only [List.set]
        walk_at "zz"
        refine ⟨_, _, _, _, rfl, pp, q, ns, o, l0, (-1) * l1, l1, n, 20, rfl, rfl, rfl, rfl, fxH.pp, eqH, hn, n13, o0, ob.up (by decide), nb, by decide, bl0.up (by decide), bs (by decide) ⟨by omega, by omega⟩, bl1.up (by decide), by omega, fun t2 l2 H9 ms s9 et2 el2 lms bms ems => ?_⟩
        have ov0 : 0 < o * l1 ^ (n - 1) := Int.mul_pos o0 (Int.pow_pos (by omega))
        have ovb : Bits 8000 (o * l1 ^ (n - 1)) := Bits.up (ob.mul (Bits.pow bl1 (n - 1))) (by omega)
        generalize o * l1 ^ (n - 1) = mo at *
        try dsimp only [List.set]
        walk_at "zz"
        refine z_lcVP (itP (cr ms mo) 8000) itP_mono el2 (by rw [List.length_map]; omega) (fun j x H4 N hx s4 c4 => ⟨rfl, ?_⟩) (fun D HD hD sD hlD => ?_)
        · obtain ⟨hj, rfl⟩ := map_at hx
          try dsimp only [List.set]
          walk_at "zz"
          rename_i tu Hu hu su eu
          refine c4 _ _ su ⟨tu, cf ms j, mo, rfl, eu, ov0, (bms j).up (by decide), ovb, ?_⟩
          have := ne_cast (show mo ≠ 0 by omega)
          show (cf ms j : Rat) = (cf ms j : Rat) / (mo : Rat) * (mo : Rat)
          grind
        · rw [List.length_map, lms] at hlD
          try dsimp only [List.set]
          walk_at "zz"
          refine ⟨_, _, _, rfl, poly, r, n, _, _, false, rfl, rfl, rfl, (fxH.mono (s9.trans sD)).po, n13, (fxH.mono (s9.trans sD)).fr, fun l3 H10 A3 s10 eA3 hl3 => ?_⟩
          have hlD2 : PL H10 D n (cr ms mo) 8000 := PL.mono s10 hlD
          try dsimp only [List.set]
          walk_at "zz"
          refine u_are (hl3.imp (Nat.le_refl _) (fun k hk => E_same (fun x _ => ?_) k hk)) hlD2 (by decide) (by omega) ?_
          · rw [eA3, ems, ways (s := -1) (by omega) (by rfl)]
            rw [if_neg Bool.false_ne_true]
          try dsimp only [List.set]
          walk_at "zz"
          exact ⟨_, _, _, _, _, _, _, _, _, _, _, _, rfl, by walk_at "sm"⟩
    · rintro σ' H' ⟨x0, x8, x9, x10, x11, x12, x13, x14, x15, x16, x17, x18, rfl, sH⟩
      have fxH := fxW.mono sH
      have hPH := hPW.mono sH
      clear fxW eqW hPW
      try dsimp only [List.set]
      walk_at "zz"
      refine ⟨_, rfl, p, rfl, hPH, fun l HL m v hPL hBL nl hL m1 m6 => ?_⟩
      have fxL := fxH.monoN (SameN.but hBL hPH)
      clear fxH
      try dsimp only [List.set]
      walk_at "zz"
      refine ⟨_, rfl, l, m, 6, 2, v, rfl, hL, m1, m6, by decide, by decide, by omega, m60 m6, fun H9 s9 => ?_⟩
      have fx9 := fxL.mono s9
      try dsimp only [List.set]
      walk_at "zz"
      refine ⟨_, _, rfl, r, _, 0, rfl, rfl, fx9.fr, .inl rfl, fun H10 s10 => ?_⟩
      have fx10 := fx9.mono s10
      try dsimp only [List.set]
      walk_at "zz"
      refine z_neI ?_
      try dsimp only [List.set]
      walk_at "zz"
      refine ⟨_, _, rfl, r, _, 61, rfl, rfl, fx10.fr, .inr rfl, fun H11 s11 => ?_⟩
      have fx11 := fx10.mono s11
      try dsimp only [List.set]
      walk_at "zz"
      refine z_neI ?_
      try dsimp only [List.set]
      walk_at "zz"
      refine ⟨_, _, _, rfl, poly, lo, lo, n, _, l0, l1, l0, l1, rfl, rfl, rfl, fx11.po, n13, fx11.lo, fx11.lo, bl0, bl1, bl0, bl1, by omega, by omega, Rat.lt_irrefl, fun H12 s12 => ?_⟩
      have fx12 := fx11.mono s12
      try dsimp only [List.set]
      walk_at "zz"
      refine ⟨_, _, _, rfl, poly, hi, lo, n, _, h0, h1, l0, l1, rfl, rfl, rfl, fx12.po, n13, fx12.hi, fx12.lo, bh0, bh1, bl0, bl1, by omega, by omega, Rat.not_lt.mpr (Rat.le_of_lt vw), fun H13 s13 => ?_⟩
      try dsimp only [List.set]
      walk_at "zz"
      exact k _
  · intro R hR
    try dsimp only [List.set]
    walk_at "zz"
    rename_i e8 H8 he8 s8 ee8
    have fx8 := fx7.mono s8
    have hdue8 := hdue7.mono s8
    have htold8 := htold.mono s8
    have eq8 := s8 _ _ eq7
    have hP8 := hP7.mono s8
    clear fx7 hdue7 htold eq7 hP7
    refine z_ne0 hdue8 ee8 ?_
    clear ee8 he8
    by_cases n0 : n = 0
    · refine ⟨false, by rw [decide_eq_true n0]; rfl, ?_⟩
      rw [if_neg Bool.false_ne_true]
      exact hR _ _ ⟨_, _, _, _, _, _, _, _, _, _, rfl, fx8, hdue8, htold8, eq8, hP8⟩
    · refine ⟨true, by rw [decide_eq_false n0]; rfl, ?_⟩
      rw [if_pos rfl]
      have n1 : 1 ≤ n := by omega
      try dsimp only [List.set]
      walk_at "zz"
      refine ⟨_, _, rfl, pp, q, lo, ns, o, l0, l1, n, rfl, rfl, fx8.pp, eq8, fx8.lo, hn, n1, n13, o0, ob.up (by decide), nb, bl0.up (by decide), bl1.up (by decide), by omega, fun va H9 sv dv s9 eva dv0 bsv bdv ev => ?_⟩
      have fx9 := fx8.mono s9
      have hdue9 := hdue8.mono s9
      have htold9 := htold8.mono s9
      have eq9 := s9 _ _ eq8
      have hP9 := hP8.mono s9
      clear fx8 hdue8 htold8 eq8 hP8
      obtain ⟨ts, ta, hts, lts, its, hta⟩ := htold9.at (k := 0) (by omega)
      try dsimp only [List.set]
      walk_at "zz"
      refine z_ixL (SqL.of hts) (atI_nat its) ?_
      try dsimp only [List.set]
      walk_at "zz"
      refine ⟨_, _, _, rfl, ta, _, 8000, sv, dv, rfl, rfl, rfl, hta, bsv.up (by decide), bdv.up (by decide), by decide, dv0, ?_, ?_⟩
      · rw [ev, cn_first (P := fun x => S30.E (cr ns o) x n) (v := (l0 : Rat) / l1) (w := (h0 : Rat) / h1) n1 eB]
      try dsimp only [List.set]
      walk_at "zz"
      refine ⟨_, _, rfl, pp, q, hi, ns, o, h0, h1, n, rfl, rfl, fx9.pp, eq9, fx9.hi, hn, n1, n13, o0, ob.up (by decide), nb, bh0.up (by decide), bh1.up (by decide), by omega, fun vb H10 sw dw s10 evb dw0 bsw bdw ew => ?_⟩
      have fx10 := fx9.mono s10
      have hdue10 := hdue9.mono s10
      have htold10 := htold9.mono s10
      have eq10 := s10 _ _ eq9
      have hP10 := hP9.mono s10
      clear fx9 hdue9 htold9 eq9 hP9 hts its hta
      obtain ⟨ts, tb, hts, lts, its, htb⟩ := htold10.at (k := n - 1) (by omega)
      try dsimp only [List.set]
      walk_at "zz"
      refine z_ixL (SqL.of hts) (at_end lts n1 its) ?_
      try dsimp only [List.set]
      walk_at "zz"
      refine ⟨_, _, _, rfl, tb, _, 8000, sw, dw, rfl, rfl, rfl, htb, bsw.up (by decide), bdw.up (by decide), by decide, dw0, ?_, ?_⟩
      · rw [ew, cn_last (P := fun x => S30.E (cr ns o) x n) (v := (l0 : Rat) / l1) (w := (h0 : Rat) / h1) n1 eB]
      try dsimp only [List.set]
      walk_at "zz"
      refine ⟨_, rfl, due, n, 2000, 240, _, rfl, hdue10, n1, by omega, by decide, by decide, by omega, m240 n13, fun H11 s11 => ?_⟩
      have fx11 := fx10.mono s11
      have hdue11 := hdue10.mono s11
      try dsimp only [List.set]
      walk_at "zz"
      refine ⟨_, rfl, due, n, 2000, 240, _, rfl, hdue11, n1, by omega, by decide, by decide, by omega, fun hv lh uh H12 s12 ehv hlh huh => ?_⟩
      have fx12 := fx11.mono s12
      clear fx10 fx11
      have elH := fx12.lo
      have ehH := fx12.hi
      try dsimp only [List.set]
      walk_at "zz"
      obtain ⟨hm1, hm2⟩ := hb12 a0 a1 b0 b1 c0 c1 d0 d1
      refine u_mkV (B := 12) (Int.mul_pos (by omega) (by omega)) (hm2.up (by decide)) hm1 hm2 (half_frac (show 0 < l1 by omega) (show 0 < h1 by omega)) (fun hf H13 s13 hhf => ?_)
      have fx13 := fx12.mono s13
      have hl2 := S30.half_lo vw rfl
      try dsimp only [List.set]
      walk_at "zz"
      refine ⟨_, _, _, rfl, poly, r, hf, n, _, _, _, rfl, rfl, rfl, fx13.po, n13, fx13.fr, hhf, fun _ t1 H14 C s14 eC hC _ => ?_, fun c => absurd hl2.1 c⟩
      have ehv14 := s14 _ _ (s13 _ _ ehv)
      have hlh14 := (hlh.mono s13).mono s14
      have fx14 := fx13.mono s14
      have hhf14 := hhf.mono s14
      try dsimp only [List.set]
      walk_at "zz"
      refine u_are (v := fun k => S30.U k (cn (n - 1) A)) (hC.imp (Nat.le_refl _) (fun k hk => (cn_lower (P := fun x => S30.E (cr ns o) x n) (v := (l0 : Rat) / l1) (w := (h0 : Rat) / h1) eA eC rfl hk).symm)) (hlh14.toL (by omega) (by omega) (fun _ _ => rfl)) (by decide) (by omega) ?_
      try dsimp only [List.set]
      walk_at "zz"
      refine ⟨_, _, _, rfl, poly, hf, s, n, _, _, _, rfl, rfl, rfl, fx14.po, n13, hhf14, fx14.la, fun _ t2 H15 C2 s15 eC2 hC2 _ => ?_, fun c => absurd hl2.2 c⟩
      have ehv15 := s15 _ _ ehv14
      have huh15 := ((huh.mono s13).mono s14).mono s15
      try dsimp only [List.set]
      walk_at "zz"
      refine u_are (v := upH n (cn (n - 1) A)) (hC2.imp (Nat.le_refl _) (fun k hk => (cn_upper (P := fun x => S30.E (cr ns o) x n) (v := (l0 : Rat) / l1) (w := (h0 : Rat) / h1) eA eC2 rfl hk).symm)) (huh15.toL (by omega) (by omega) (fun _ _ => rfl)) (by decide) (by omega) ?_
      have fx15 := fx14.mono s15
      have eq15 : H15 q = some (.lst (ns.map V.int)) := s15 _ _ (s14 _ _ (s13 _ _ (s12 _ _ (s11 _ _ eq10))))
      clear elH ehH
      try dsimp only [List.set]
      walk_at "zz"
      exact hR _ _ ⟨_, _, _, _, _, _, _, _, _, _, rfl, fx15, (((hdue11.mono s12).mono s13).mono s14).mono s15, ((((htold10.mono s11).mono s12).mono s13).mono s14).mono s15, eq15, ((((hP10.mono s11).mono s12).mono s13).mono s14).mono s15⟩
theorem c_law (L : Lw K mg) : Cal P w K mg base 12 "law" (sp1 (fs_law K)) [] := by
  obtain ⟨fd, F⟩ := L.d_law
  exact ⟨⟨_, fd, ["script"], [], ok_law L F, L.g_law, F.kp, F.bindsN (fun _ _ _ _ _ _ us hl => match us, hl with | [_], _ => rfl), .nil⟩⟩
end
end T

set_option maxHeartbeats 0
open PySem PySem.W PySem.Calls PyProof.Rows
theorem PySem.Challenge.cw_belownought_k30_halved_corner_numbers_holds : PySem.Challenge.rw_belownought_k30_halved_corner_numbers.Holds := by
  w_on; o_law
  refine HandSHeadRun.head_imp (r := T.R) (q := view T.R.prog [0, 58]) (H := T.hk) (ob := T.ob) (M := 6000) (loose := T.loose) (d := HandSHeadRun.topDef T.R.prog 58) (kwd := []) T.ob_eq T.run
    (by kernel_rfl) (by kernel_rfl) (by kernel_rfl) (by rfl) (by first | assumption | decide +kernel) (by decide +kernel) ⟨rfl, rfl, rfl, rfl, rfl, by decide +kernel⟩ ?hw ?hc
  case hw => w_witness2
  case hc =>
    refine L2.walk_ofE (l := PySem.Challenge.rw_belownought_k30_halved_corner_numbers) (n := 63) (k := 12) (x := "script") (CX := L2.CX0) rfl (by decide) (by kernel_rfl) ⟨rfl, by decide, by decide⟩ ?F (fun _ _ _ _ z => z)
    case F =>
      intro w mg fa h Y G hmg0
      obtain ⟨K, KX, c⟩ := Y
      have hmg : mg ("law" : PySem.Str) = some (.ref fa) := by
        have e : (HandSHeadRun.topDef T.R.prog 58).name = ("law" : PySem.Str) := by kernel_rfl
        rw [← e]
        exact hmg0
      have L : T.Lw K mg := ⟨⟨h, KX, G⟩, c⟩
      obtain ⟨fd, F⟩ := L.d_law
      have e := hmg.symm.trans L.g_law
      cases e
      refine ⟨K, fd, Z.sp1 (Z.fs_law K), KX, fun s v => F.bindsA (ps := ["script"]) (fun _ _ _ _ _ _ us hl => match us, hl with | [_], _ => rfl) s [v] rfl, fun H a ns hl _ hS => ⟨_, rfl, a, ns, rfl, hS, hl, fun _ => rfl⟩, fun base _ _ => ?_⟩
      exact Z.law_quiet (T.ok_law L F) (by decide)

