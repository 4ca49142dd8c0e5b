import PyProof.Rows.All
import Wide.All
import OpenK.AllK
import Wide.FinOn
import HandS.ForMost
import HandS.Exc
import HandS.ExcOwn
import HandS.WordsExc
import HandS.CallSlots
import HandS.TryOnly
import HandS.TryMany
import HandS.Gcd
import HandS.ExcInit
import HandS.IsInst
import HandS.Defaults
import HandS.MakeKw
import HandS.Wide
import HandS.HotCalls
import HandS.ExcIs
import HandS.ExcField
import HandS.Flow
import HandS.Style
import HandS.Head0
import HandS.Head1
import HandS.Head2
import HandS.Head3
import HandS.HeadEnd
import HandS.HeadHook1
import HandS.HeadHook2
import KE.KExcIs
import PySem.Challenge.RW_belownought_k01_simplest_between
set_option Elab.async false
set_option linter.all false
set_option maxRecDepth 100000
set_option maxHeartbeats 4000000
/-! my own layer over the hand layer: calls by name, own operators, readings step by step -/
namespace Z
open PySem PySem.Spec PyProof.Rows L2

/-! ### callables -/
section
variable (P : Program) (w : World) (K : PySem.W.Frag) (mg : Str → Option Value) (base : Heap)
/-- a def of the module under its name, the defaults dvs filling up -/
structure Cal (k : Nat) (x : Str) (sp : Sp) (dvs : List V) : Prop where
  ex : ∃ (f : Addr) (fd : FuncData) (ps : List Str) (ds : List Value), FnOk P w K mg base (L2N.CX P w) k f fd ps sp ∧ mg x = some (.ref f) ∧ PySem.W.keepIn K (.ref f) = true ∧ Binds K fd ps ds ∧ Vals dvs ds
/-- .. called with keywords ks behind n values -/
structure CalK (k : Nat) (x : Str) (sp : Sp) (n : Nat) (ks : List Str) (gV : List V → List V → List V) : Prop where
  ex : ∃ (f : Addr) (fd : FuncData) (ps : List Str) (g : List Value → List Value → List Value), FnOk P w K mg base (L2N.CX P w) k f fd ps sp ∧ mg x = some (.ref f) ∧ PySem.W.keepIn K (.ref f) = true ∧ KBn K fd ps n ks g gV
/-- .. within an except suite -/
structure CalH (k : Nat) (x : Str) (sp : Sp) : Prop where
  ex : ∃ (f : Addr) (fd : FuncData) (ps : List Str), L2H.FnH P w K mg base (L2N.CX P w) k f fd ps sp ∧ mg x = some (.ref f) ∧ PySem.W.keepIn K (.ref f) = true ∧ Binds K fd ps []
/-- a method -/
structure Met (k : Nat) (C : Addr) (m : Str) (sp : Sp) (dvs : List V) : Prop where
  ex : ∃ (f : Addr) (fd : FuncData) (ps : List Str) (ds : List Value), Cls K C ∧ Meth K C m f ∧ FnOk P w K mg base (L2N.CX P w) k f fd ps sp ∧ Binds K fd ps ds ∧ Vals dvs ds
/-- a class made by its name -/
structure Mak (k : Nat) (x : Str) (C : Addr) (sp : Sp) (dvs : List V) : Prop where
  ex : ∃ (f : Addr) (fd : FuncData) (ps : List Str) (ds : List Value), Mk K C f ∧ FnOk P w K mg base (L2N.CX P w) k f fd ps sp ∧ mg x = some (.ref C) ∧ Binds K fd ps ds ∧ Vals dvs ds
structure MakK (k : Nat) (x : Str) (C : Addr) (sp : Sp) (n : Nat) (ks : List Str) (gV : List V → List V → List V) : Prop where
  ex : ∃ (f : Addr) (fd : FuncData) (ps : List Str) (g : List Value → List Value → List Value), Mk K C f ∧ FnOk P w K mg base (L2N.CX P w) k f fd ps sp ∧ mg x = some (.ref C) ∧ KBn K fd ps (n + 1) ks g gV
/-- an exception class made by its name, its own __init__ keeping sp -/
structure MakX (k : Nat) (x : Str) (C : Addr) (sp : Sp) : Prop where
  ex : ∃ (f : Addr) (fd : FuncData) (ps : List Str), OexC K C ∧ PySem.W.findIn K (.ref C) "__init__" = some (some (.ref f)) ∧ PySem.W.typeIn K (.ref f) = some (.type "function") ∧ FnOk P w K mg base (L2N.CX P w) k f fd ps sp ∧ mg x = some (.ref C) ∧ Binds K fd ps []
end

/-- what a call lets out, wished for by W -/
def tCallW (sp : Sp) (dvs : List V) (W : WX) (t : TA) : TE := fun σ H Q => t σ H fun vs H1 => sp (vs ++ dvs) H1 Q (fun cls d H' => W cls d σ H')
def tCallKW (n m : Nat) (sp : Sp) (gV : List V → List V → List V) (E : XK) (t tk : TA) : TE := fun σ H Q => t σ H fun vs H1 => tk σ H1 fun zs H2 => vs.length = n ∧ zs.length = m ∧ sp (gV vs zs) H2 Q E
def tMethW (C : Addr) (m : Str) (sp : Sp) (dvs : List V) (W : WX) (ta : TE) (t : TA) : TE := fun σ H Q => ta σ H fun x H1 => ∃ a dx fs, x = .ref a ∧ H1 a = some (.ins C dx fs) ∧ fs.lookup m = none ∧
  t σ H1 fun vs H2 => sp (x :: (vs ++ dvs)) H2 Q (fun cls d H' => W cls d σ H')
def tMakeW (C : Addr) (sp : Sp) (dvs : List V) (W : WX) (t : TA) : TE := fun σ H Q => t σ H fun vs H1 => ∀ x dx, H1 x = none → H1 dx = none → dx ≠ x →
  sp (.ref x :: (vs ++ dvs)) (upd (upd H1 dx (.own x)) x (.ins C dx [])) (fun v H2 => v = .non ∧ Q (.ref x) H2) (fun cls d H' => W cls d σ H')

section
variable {X : Cx} {k j : Nat} {f C : Addr} {fd : FuncData} {ps : List Str} {sp : Sp} {dvs : List V} {ds : List Value} {W : WX} {x m : Str} {p pos apos : Pos} {e o : Expr} {es : List Expr} {ta : TE} {t : TA}
theorem passW (tk : L2N.Takes X W) (σ : L2.St) : PassesAt (L2N.CX X.prog X.w) X σ (fun cls d H => W cls d σ H) := L2N.passAt tk σ
theorem pe_c (c : Cal X.prog X.w X.K X.mg X.base k x sp dvs) (hr : Room j X.A) (hk : k ≤ j) (tk : L2N.Takes X W) (ha : PA X (e :: es) t) (hg : Gl X x := by rfl)
    (hdb : (x == ("__debug__" : Str)) = false := by decide) (he : starEach (e :: es) X.env = (false, eval e X.env) :: starEach es X.env := by rfl) (hpl : (backTo pos (starEach es X.env)).any (·.1) = false := by rfl) :
    PE X (.Call (.Name x p) (e :: es) [] pos) (tCallW sp dvs W t) := by
  obtain ⟨f, fd, ps, ds, F, hm, kp, b, d⟩ := c.ex
  exact pe_callSD (E := fun σ cls d H => W cls d σ H) F (hr.mono hk) hg hm kp b d (passW tk) ha hdb he hpl
theorem pe_c0 (c : Cal X.prog X.w X.K X.mg X.base k x sp dvs) (hr : Room j X.A) (hk : k ≤ j) (tk : L2N.Takes X W) (hg : Gl X x := by rfl)
    (hdb : (x == ("__debug__" : Str)) = false := by decide) :
    PE X (.Call (.Name x p) [] [] pos) (tCallW sp dvs W tNil) := by
  obtain ⟨f, fd, ps, ds, F, hm, kp, b, d⟩ := c.ex
  refine ⟨fun pins s σ H Q I h => ?_⟩
  refine wpAny_Call_Name_kw (ld_glob I hg hm ?_ hdb)
  exact PySem.W.callWith_K0 I.kIn kp (run_fnSD (us := []) (E := fun σ cls d H => W cls d σ H) F (hr.mono hk) b d (passW tk σ) I .nil h)
/-- called with keywords; what leaves it is wished for by E, whatever the slots are -/
theorem pe_ck {n : Nat} {ks : List Str} {gV : List V → List V → List V} {E : XK} {kws : List Keyword} {tw : TA} (c : CalK X.prog X.w X.K X.mg X.base k x sp n ks gV) (hr : Room j X.A) (hk : k ≤ j) (hx : Passes (L2N.CX X.prog X.w) X E) (ha : PA X (e :: es) t) (hkw : PK X kws tw) (hg : Gl X x := by rfl)
    (hall : (backToKw pos (keywordEach kws X.env)).all (·.1.isSome) = true := by rfl) (hks : (backToKw pos (keywordEach kws X.env)).filterMap (·.1) = ks := by rfl)
    (hdb : (x == ("__debug__" : Str)) = false := by decide) (he : starEach (e :: es) X.env = (false, eval e X.env) :: starEach es X.env := by rfl)
    (hpl : ((backTo pos (starEach (e :: es) X.env)).any (·.1) || (backToKw pos (keywordEach kws X.env)).any (·.1.isNone)) = false := by rfl) :
    PE X (.Call (.Name x p) (e :: es) kws pos) (tCallN n ks.length sp gV E t tw) := by
  obtain ⟨f, fd, ps, g, F, hm, kp, b⟩ := c.ex
  exact pe_callN F (hr.mono hk) hg hm kp b hx ha hkw hall hks hdb he hpl
/-- .. keywords alone -/
theorem pe_ck0 {ks : List Str} {gV : List V → List V → List V} {E : XK} {kw : Keyword} {kws : List Keyword} {tw : TA} (c : CalK X.prog X.w X.K X.mg X.base k x sp 0 ks gV) (hr : Room j X.A) (hk : k ≤ j) (hx : Passes (L2N.CX X.prog X.w) X E) (hkw : PK X (kw :: kws) tw) (hg : Gl X x := by rfl)
    (hall : (backToKw pos (keywordEach (kw :: kws) X.env)).all (·.1.isSome) = true := by rfl) (hks : (backToKw pos (keywordEach (kw :: kws) X.env)).filterMap (·.1) = ks := by rfl)
    (hdb : (x == ("__debug__" : Str)) = false := by decide)
    (hpl : ((backTo pos (starEach [] X.env)).any (·.1) || (backToKw pos (keywordEach (kw :: kws) X.env)).any (·.1.isNone)) = false := by rfl) :
    PE X (.Call (.Name x p) [] (kw :: kws) pos) (tCallN 0 ks.length sp gV E tNil tw) := by
  obtain ⟨f, fd, ps, g, F, hm, kp, b⟩ := c.ex
  refine ⟨fun pi s0 sl H0 Q0 J0 h0 => ?_⟩
  have J := J0
  refine wpAny_Call_Name_kw (ld_glob J hg hm ?_ hdb)
  refine PySem.W.callWith_KW0 (h₀ := X.base) J.ok.mod.kin kp hall ?_ hpl
  refine thn (hkw.run pos pi s0 sl H0 _ J h0) fun ws s2 ⟨zs, H2, J2, rz, _, l2, q2⟩ => ⟨J2.kIn, ?_⟩
  rw [hks]
  exact run_fnN (vs := []) F (hr.mono hk) b hx J2 .nil rz rfl l2 q2
/-- making an instance, the wish at the slots -/
theorem run_mkS {pi : List (Addr × Obj)} {sl : L2.St} {H0 : Hp} {s0 : Shared} {Q0 : VK} {us : List Value} {xs : List V} {E0 : XK} (M : Mk X.K C f) (F : FnOk X.prog X.w X.K X.mg X.base (L2N.CX X.prog X.w) k f fd ps sp) (hr : Room (k + 1) X.A) (hb : Binds X.K fd ps ds) (hd : Vals dvs ds)
    (hx : PassesAt (L2N.CX X.prog X.w) X sl E0) (J : Inv X pi sl H0 s0) (r : Vals xs us)
    (h : ∀ y dy, H0 y = none → H0 dy = none → dy ≠ y → sp (.ref y :: (xs ++ dvs)) (upd (upd H0 dy (.own y)) y (.ins C dy [])) (fun v H2 => v = .non ∧ Q0 (.ref y) H2) E0) :
    wpAny (model X.prog X.w) X.A (call (.ref C) us) (EP X pi sl Q0) X.xe s0 := by
  have g1 := J.hok.fresh (Nat.le_succ s0.heap.objs.size)
  have g2 := J.hok.fresh (Nat.le_refl s0.heap.objs.size)
  have asked := h _ _ g1 g2 (Nat.ne_of_lt (Nat.lt_succ_self _))
  have J2 := Inv.made (C := C) J
  have rs : Vals (V.ref (s0.heap.objs.size + 1) :: (xs ++ dvs)) (Value.ref (s0.heap.objs.size + 1) :: (us ++ ds)) := .cons rfl (r.append hd)
  have sz : (Value.ref (s0.heap.objs.size + 1) :: us ++ ds).length = ps.length := rs.length.symm.trans (F.len _ _ _ _ asked)
  have bd := hb _ (Value.ref (s0.heap.objs.size + 1) :: us) J2.kIn sz
  have run := F.run (X.A.under (.builtin "type.__call__" ⟨.ref C :: us, []⟩)) X.stack _ _ ⟨Value.ref (s0.heap.objs.size + 1) :: us, []⟩ _ _ _ _ (hr.make C us []) (J2.env0.make C us []) bd rs asked
  refine wpAny_call (make_map (f := f) J.kIn M.makes M.init (beq_iff_eq.mp M.fn) (codeAny_mono run fun fin s1 hq => ?_))
  match fin, hq with
  | .error er, hq => exact hx pi _ _ er s1 J2 hq
  | .ok (.ret u), hq =>
    obtain ⟨v, H3, J3, rv, ev, q3⟩ := J2.after hq
    subst ev
    exact ⟨rv, ⟨V.ref (s0.heap.objs.size + 1), H3, J3, rfl, q3⟩⟩
theorem pe_mk (c : Mak X.prog X.w X.K X.mg X.base k x C sp dvs) (hr : Room j X.A) (hk : k + 1 ≤ j) (tk : L2N.Takes X W) (ha : PA X (e :: es) t) (hg : Gl X x := by rfl)
    (hdb : (x == ("__debug__" : Str)) = false := by decide) (he : starEach (e :: es) X.env = (false, eval e X.env) :: starEach es X.env := by rfl) (hpl : (backTo pos (starEach es X.env)).any (·.1) = false := by rfl) :
    PE X (.Call (.Name x p) (e :: es) [] pos) (tMakeW C sp dvs W t) := by
  obtain ⟨f, fd, ps, ds, M, F, hm, b, d⟩ := c.ex
  refine ⟨fun pi s0 sl H0 Q0 J h0 => ?_⟩
  refine wpAny_Call_Name_kw (ld_glob J hg hm ?_ hdb)
  refine PySem.W.callWith_K (h₀ := X.base) J.ok.mod.kin M.kp (thn (ha.run pos pi s0 sl H0 _ J h0) fun us s1 ⟨xs, H1, J1, r, q⟩ => ⟨J1.kIn, ?_⟩) he hpl
  exact run_mkS M F (hr.mono hk) b d (passW tk sl) J1 r q
theorem pe_mk0 (c : Mak X.prog X.w X.K X.mg X.base k x C sp dvs) (hr : Room j X.A) (hk : k + 1 ≤ j) (tk : L2N.Takes X W) (hg : Gl X x := by rfl)
    (hdb : (x == ("__debug__" : Str)) = false := by decide) :
    PE X (.Call (.Name x p) [] [] pos) (tMakeW C sp dvs W tNil) := by
  obtain ⟨f, fd, ps, ds, M, F, hm, b, d⟩ := c.ex
  refine ⟨fun pi s0 sl H0 Q0 J h0 => ?_⟩
  refine wpAny_Call_Name_kw (ld_glob J hg hm ?_ hdb)
  exact PySem.W.callWith_K0 J.kIn M.kp (run_mkS (us := []) M F (hr.mono hk) b d (passW tk sl) J .nil h0)
theorem pe_mkk {n : Nat} {ks : List Str} {gV : List V → List V → List V} {E : XK} {kws : List Keyword} {tw : TA} (c : MakK X.prog X.w X.K X.mg X.base k x C sp n ks gV) (hr : Room j X.A) (hk : k + 1 ≤ j) (hx : Passes (L2N.CX X.prog X.w) X E) (ha : PA X (e :: es) t) (hkw : PK X kws tw) (hg : Gl X x := by rfl)
    (hall : (backToKw pos (keywordEach kws X.env)).all (·.1.isSome) = true := by rfl) (hks : (backToKw pos (keywordEach kws X.env)).filterMap (·.1) = ks := by rfl)
    (hdb : (x == ("__debug__" : Str)) = false := by decide) (he : starEach (e :: es) X.env = (false, eval e X.env) :: starEach es X.env := by rfl)
    (hpl : ((backTo pos (starEach (e :: es) X.env)).any (·.1) || (backToKw pos (keywordEach kws X.env)).any (·.1.isNone)) = false := by rfl) :
    PE X (.Call (.Name x p) (e :: es) kws pos) (tMakeN C n ks.length sp gV E t tw) := by
  obtain ⟨f, fd, ps, g, M, F, hm, b⟩ := c.ex
  exact pe_makeN M F (hr.mono hk) hg hm b hx ha hkw hall hks hdb he hpl
theorem pe_mkk0 {ks : List Str} {gV : List V → List V → List V} {E : XK} {kw : Keyword} {kws : List Keyword} {tw : TA} (c : MakK X.prog X.w X.K X.mg X.base k x C sp 0 ks gV) (hr : Room j X.A) (hk : k + 1 ≤ j) (hx : Passes (L2N.CX X.prog X.w) X E) (hkw : PK X (kw :: kws) tw) (hg : Gl X x := by rfl)
    (hall : (backToKw pos (keywordEach (kw :: kws) X.env)).all (·.1.isSome) = true := by rfl) (hks : (backToKw pos (keywordEach (kw :: kws) X.env)).filterMap (·.1) = ks := by rfl)
    (hdb : (x == ("__debug__" : Str)) = false := by decide)
    (hpl : ((backTo pos (starEach [] X.env)).any (·.1) || (backToKw pos (keywordEach (kw :: kws) X.env)).any (·.1.isNone)) = false := by rfl) :
    PE X (.Call (.Name x p) [] (kw :: kws) pos) (tMakeN C 0 ks.length sp gV E tNil tw) := by
  obtain ⟨f, fd, ps, g, M, F, hm, b⟩ := c.ex
  refine ⟨fun pi s0 sl H0 Q0 J h0 => ?_⟩
  refine wpAny_Call_Name_kw (ld_glob J hg hm ?_ hdb)
  refine PySem.W.callWith_KW0 (h₀ := X.base) J.ok.mod.kin M.kp hall ?_ hpl
  refine thn (hkw.run pos pi s0 sl H0 _ J h0) fun ws s2 ⟨zs, H2, J2, rz, l1, l2, q2⟩ => ⟨J2.kIn, ?_⟩
  rw [hks]
  exact run_makeN (vs := []) M F (hr.mono hk) b hx J2 .nil rz rfl l2 q2
/-- o.m(..) of an own class -/
theorem pe_mt {pl : Sem Bool} (c : Met X.prog X.w X.K X.mg X.base k C m sp dvs) (hr : Room j X.A) (hk : k ≤ j) (tk : L2N.Takes X W) (ho : PE X o ta) (ha : PA X (e :: es) t)
    (hst : starEach (e :: es) X.env = (false, eval e X.env) :: starEach es X.env := by rfl) (hpl : (backTo pos (starEach es X.env)).any (·.1) = false := by rfl)
    (ht : eval (.Call (.Attribute o m apos) (e :: es) [] pos) X.env = (do
      let ov ← eval o X.env; standAt apos.atName
      let (f, first) ← holding [ov] (getMethod ov m pl); callWith pos f first (backTo pos (starEach (e :: es) X.env)) (backToKw pos (keywordEach [] X.env))) := by rfl) :
    PE X (.Call (.Attribute o m apos) (e :: es) [] pos) (tMethW C m sp dvs W ta t) := by
  obtain ⟨f, fd, ps, ds, hc, hm, F, b, d⟩ := c.ex
  refine ⟨fun pi s0 sl H0 Q0 J h0 => ?_⟩
  refine PySem.W.methodCall_KW (pl := pl) (thn (ho.run pi s0 sl H0 _ J h0) fun u s1 ⟨y, H1, J1, ry, a, dy, fs, ey, ea, l, q⟩ => ?_) ht
  subst ey
  obtain rfl : u = Value.ref a := ry
  refine getmeth_ok J1 ea hc hm l ?_
  refine PySem.W.callWith_K (first := [.ref a]) (h₀ := X.base) J.ok.mod.kin hm.kp (thn (ha.run pos pi s1 sl H1 _ J1 q) fun us s2 ⟨xs, H2, J2, r, q2⟩ => ⟨J2.kIn, ?_⟩) hst hpl
  exact run_fnSD (us := .ref a :: us) (vs := .ref a :: xs) (E := fun σ cls d H => W cls d σ H) F (hr.mono hk) b d (passW tk sl) J2 (.cons rfl r) q2
theorem pe_mt0 {pl : Sem Bool} (c : Met X.prog X.w X.K X.mg X.base k C m sp dvs) (hr : Room j X.A) (hk : k ≤ j) (tk : L2N.Takes X W) (ho : PE X o ta)
    (ht : eval (.Call (.Attribute o m apos) [] [] pos) X.env = (do
      let ov ← eval o X.env; standAt apos.atName
      let (f, first) ← holding [ov] (getMethod ov m pl); callWith pos f first (backTo pos (starEach [] X.env)) (backToKw pos (keywordEach [] X.env))) := by rfl) :
    PE X (.Call (.Attribute o m apos) [] [] pos) (tMethW C m sp dvs W ta tNil) := by
  obtain ⟨f, fd, ps, ds, hc, hm, F, b, d⟩ := c.ex
  refine ⟨fun pi s0 sl H0 Q0 J h0 => ?_⟩
  refine PySem.W.methodCall_KW (pl := pl) (thn (ho.run pi s0 sl H0 _ J h0) fun u s1 ⟨y, H1, J1, ry, a, dy, fs, ey, ea, l, q⟩ => ?_) ht
  subst ey
  obtain rfl : u = Value.ref a := ry
  refine getmeth_ok J1 ea hc hm l ?_
  exact PySem.W.callWith_K0 (first := [.ref a]) J1.kIn hm.kp (run_fnSD (us := [.ref a]) (vs := [.ref a]) (E := fun σ cls d H => W cls d σ H) F (hr.mono hk) b d (passW tk sl) J1 (.cons rfl .nil) q)
end
end Z

set_option maxHeartbeats 4000000
/-! own exceptions made, own operators, unions of rules, the readings' steps -/
namespace Z
open PySem PySem.Spec PyProof.Rows L2

section
variable {X : Cx} {k j : Nat} {C : Addr} {sp : Sp} {W : WX} {x : Str} {p pos : Pos} {e : Expr} {es : List Expr} {t : TA}
/-- X(), X an own exception class without an __init__ of the text -/
theorem pmk_x0 {bmB : List Value} {B newId initId : String} (F : ExcBaseFacts B newId initId bmB) (q : PySem.W.excIn X.K C bmB newId = true) (gC : X.mg x = some (.ref C)) (kC : PySem.W.keepIn X.K (.ref C) = true) (r : Raises X (.ref C)) (hg : Gl X x := by rfl)
    (hdb : (x == ("__debug__" : Str)) = false := by decide) : L2N.PMk X (.Call (.Name x p) [] [] pos) (fun _ H Q => Q (.ref C) none H) := by
  intro pi s0 sl H0 Q0 J h0
  refine wpAny_Call_Name_kw (ld_glob J hg gC ?_ hdb)
  refine PySem.W.callWith_K0 J.kIn kC ?_
  show wpAny _ _ (call (.ref C) []) _ _ _
  obtain ⟨bm, N, nm, qn, bs, hdct, sn, sub, ab, col, dd, k0, k1, k2, k3, k5, mN, hC, hN, hni, T⟩ := exc_obj J.kIn q
  refine wpAny_call_exc_subT F T hC hN hni (fun h1 e1 hm => ?_) (Nat.zero_le _)
  exact L2N.mk_of J hm r h0 (J.hok.gone hm.new)
/-- C(..), C's own __init__ keeping sp: what is left is an exception without a context -/
theorem run_exc {fI : Addr} {fd : FuncData} {ps : List Str} {pi : List (Addr × Obj)} {sl : L2.St} {H1 : Hp} {s1 : Shared} {Q0 : XK} {us : List Value} {xs : List V} (T : OexC X.K C) (iC : PySem.W.findIn X.K (.ref C) "__init__" = some (some (.ref fI)))
    (tI : PySem.W.typeIn X.K (.ref fI) = some (.type "function")) (F1 : FnOk X.prog X.w X.K X.mg X.base (L2N.CX X.prog X.w) k fI fd ps sp) (hr : Room (k + 1) X.A) (hb : Binds X.K fd ps []) (hx : Passes (L2N.CX X.prog X.w) X (fun _ _ _ => False)) (J1 : Inv X pi sl H1 s1) (r1 : Vals xs us) (hz : xs.length ≤ 1000)
    (q1 : ∀ a, H1 a = none → sp (.ref a :: (xs ++ [])) (upd H1 a (exo a C none)) (fun v H2 => v = .non ∧ ∃ (d : Addr) (fs : List (Str × V)), H2 a = some (exo a C (some d)) ∧ H2 d = some (exd d fs) ∧ H1 d = none ∧ Q0 (.ref C) (some d) (upd (del H2 a) d (.xd fs))) (fun _ _ _ => False)) :
    wpAny (model X.prog X.w) X.A (call (.ref C) us) (L2N.MkP X pi sl Q0) X.xe s1 := by
  obtain ⟨nm, q, N, bs, bm, sn, sub, ab, col, dd, k0, k1, k2, k3, k5, hC, hbm⟩ := T.cls
  obtain ⟨hp, g, dr, tk, os⟩ := s1
  have sz0 := Nat.le_succ hp.objs.size
  have nw : H1 (hp.objs.size + 1) = none := J1.hok.fresh sz0
  have asked := q1 _ nw
  have old : ∀ b o, hp.get? b = some o → ((hp.push (PySem.W.kdv_tup us)).push (PySem.HandSPX.excO C hp.objs.size)).get? b = some o := fun b o e1 => Heap.get?_push_of_some _ (Heap.get?_push_of_some _ e1)
  have at_new : ((hp.push (PySem.W.kdv_tup us)).push (PySem.HandSPX.excO C hp.objs.size)).get? (hp.objs.size + 1) = some (PySem.HandSPX.excO C hp.objs.size) := by heap_get
  have J2 := J1.laid (t' := tk) (a := hp.objs.size + 1) (o := exo (hp.objs.size + 1) C none) old sz0 (exo_ok at_new)
  have r2 : Vals (V.ref (hp.objs.size + 1) :: (xs ++ [])) (Value.ref (hp.objs.size + 1) :: (us ++ [])) := .cons rfl (r1.append .nil)
  have szl : (Value.ref (hp.objs.size + 1) :: us ++ []).length = ps.length := r2.length.symm.trans (F1.len _ _ _ _ asked)
  have szu : us.length ≤ sizeLine := by rw [← Paired.length r1, sizeLine_eq]; omega
  have bd := hb _ (Value.ref (hp.objs.size + 1) :: us) J2.kIn szl
  have run := F1.run (X.A.under (.builtin "type.__call__" ⟨.ref C :: us, []⟩)) X.stack _ _ ⟨Value.ref (hp.objs.size + 1) :: us, []⟩ _ _ _ (fun _ _ _ => False) (hr.make C us []) (J2.env0.make C us []) bd r2 asked
  have looks := PySem.W.looks_findIn (M := model X.prog X.w) J1.kIn iC
  refine wpAny_call (PySem.HandSPX.call_own PySem.F.excBase_ValueError (fun Y => PySem.HandSPX.refsVE_contains Y bm hbm) (J1.kIn _ _ hC) looks (fun self => PySem.W.bind_fn J1.kIn self tI) szu (codeAny_mono run fun fin s3 hq => ?_))
  match fin, hq with
  | .error er, hq => exact hx pi sl _ _ er s3 J2 hq
  | .ok (.ret u), hq =>
    obtain ⟨v, H2, os2, bare2, un2, hok2, rv, ev, d, fs, ea, ed, hd1, q2⟩ := hq
    subst ev
    obtain ⟨h2, g2, d2, t2, os'⟩ := s3
    obtain ⟨t0, G, J3, kG, ge, hoe, na⟩ := mk_end0 (d2 := d2) (t2 := t2) J1 sz0 old un2 hok2 os2 bare2 ea ed hd1
    exact ⟨rv, _, _, _, ⟨G, g2, d2, t2, os'⟩, _, .ref C, some d, rfl, J3, kG, ge, hoe, ⟨rfl, rfl, fun vs ev => by cases ev; rfl⟩, rfl, rfl, na, rfl, bare2, raises_own T.exC T.tyC, q2⟩
theorem pmk_x (c : MakX X.prog X.w X.K X.mg X.base k x C sp) (hr : Room j X.A) (hk : k + 1 ≤ j) (hx : Passes (L2N.CX X.prog X.w) X (fun _ _ _ => False)) (ha : PA X (e :: es) t) (hg : Gl X x := by rfl)
    (hdb : (x == ("__debug__" : Str)) = false := by decide) (he : starEach (e :: es) X.env = (false, eval e X.env) :: starEach es X.env := by rfl) (hpl : (backTo pos (starEach es X.env)).any (·.1) = false := by rfl) :
    L2N.PMk X (.Call (.Name x p) (e :: es) [] pos) (tMkO C sp [] t) := by
  obtain ⟨f, fd, ps, T, iC, tI, F, hm, b⟩ := c.ex
  intro pi s0 sl H0 Q0 J h0
  refine wpAny_Call_Name_kw (ld_glob J hg hm ?_ hdb)
  refine PySem.W.callWith_K (h₀ := X.base) J.ok.mod.kin T.kC (thn (ha.run pos pi s0 sl H0 _ J h0) fun us s1 ⟨xs, H1, J1, r1, hz, q1⟩ => ⟨J1.kIn, ?_⟩) he hpl
  exact run_exc T iC tI F (hr.mono hk) b hx J1 r1 hz q1
theorem passF : Passes (L2N.CX X.prog X.w) X (fun _ _ _ => False) := fun _ _ _ _ _ _ _ h => by
  obtain ⟨_, _, _, _, _, _, _, _, _, _, _, _, z⟩ := h
  exact z.elim
/-- what leaves a def's own frame -/
theorem passE {E : XK} (tk : L2N.Takes X (fun cls d _ H => E cls d H)) : Passes (L2N.CX X.prog X.w) X E := L2N.passes_call tk fun _ _ _ _ h => h

/-! ### operators of own classes -/
def rOwn1 (C : Addr) (sp : Sp) (E : XK) : V → Hp → VK → Prop := fun x H Q => ∃ a dx fs, x = .ref a ∧ H a = some (.ins C dx fs) ∧ sp [.ref a] H Q E
def rOwn2 (C : Addr) (sp : Sp) (E : XK) : R2 := fun x y H Q => ∃ a b dx dy fs gs, x = .ref a ∧ y = .ref b ∧ H a = some (.ins C dx fs) ∧ H b = some (.ins C dy gs) ∧ sp [.ref a, .ref b] H (fun v H' => (∃ q, v = .ref q) ∧ Q v H') E
theorem un_own (c : Met X.prog X.w X.K X.mg X.base k C "__neg__" sp []) (hr : Room j X.A) (hk : k ≤ j) {E : XK} (hx : Passes (L2N.CX X.prog X.w) X E) : UnR X (unaryOp .USub) (rOwn1 C sp E) := by
  intro pi s0 sl H0 y v Q0 J ry h0
  obtain ⟨a, dy, fs, rfl, ea, q⟩ := h0
  obtain rfl : v = Value.ref a := ry
  obtain ⟨f, fd, ps, ds, hc, hm, F, b, d⟩ := c.ex
  obtain ⟨mA, O, _⟩ := ins_get J.hok ea
  obtain ⟨od, I0, _⟩ := O.look
  obtain ⟨m0, fr⟩ := J.fr
  refine PySem.W.ksp_neg fr J.ok.mod.kin I0 hm.at_ hm.fn ?_
  exact run_fn (us := [.ref a]) (vs := [.ref a]) F (hr.mono hk) b d hx J (.cons rfl .nil) q
theorem ref_cls {pi : List (Addr × Obj)} {s0 : Shared} {sl : L2.St} {H0 : Hp} {b dy : Addr} {gs : List (Str × V)} (J : Inv X pi sl H0 s0) (eb : H0 b = some (.ins C dy gs)) {M : Model} : PySem.W.Looks M s0.heap (typeOf (.ref b)) (.ref C) := by
  obtain ⟨mA, O, _⟩ := ins_get J.hok eb
  obtain ⟨od, I0, _⟩ := O.look
  exact I0.type
theorem op_own {op : Operator} {m : Str} (hop : PySem.dunder op.info.2 = m) (hs : PySem.W.selfFirst X.K C = true) (c : Met X.prog X.w X.K X.mg X.base k C m sp []) (hr : Room j X.A) (hk : k ≤ j) {E : XK} (hx : Passes (L2N.CX X.prog X.w) X E) : OpR X (binaryOp op) (rOwn2 C sp E) := by
  intro pi s0 sl H0 y z v u Q0 J ry rz h0
  obtain ⟨a, b, dy, dz, fs, gs, rfl, rfl, ea, eb, q⟩ := h0
  obtain rfl : v = Value.ref a := ry
  obtain rfl : u = Value.ref b := rz
  obtain ⟨f, fd, ps, ds, hc, hm, F, bd, d⟩ := c.ex
  obtain ⟨mA, O, _⟩ := ins_get J.hok ea
  obtain ⟨od, I0, _⟩ := O.look
  obtain ⟨m0, fr⟩ := J.fr
  refine PySem.W.binop_K fr J.ok.mod.kin I0 (ref_cls J eb) hs (by rw [hop]; exact hm.at_) hm.fn ?_
  cases d
  refine wpAny_mono (run_fn (us := [.ref a, .ref b]) (vs := [.ref a, .ref b]) F (hr.mono hk) bd .nil hx J (.cons rfl (.cons rfl .nil)) q) (fun r s1 hq => ?_) fun _ _ z => z
  obtain ⟨v1, H1, J1, rv, ⟨q1, e1⟩, q2⟩ := hq
  subst e1
  obtain rfl : r = Value.ref q1 := rv
  exact ⟨.ref q1, H1, J1, rfl, q2⟩

/-! ### unions -/
def rOr (r r' : R2) : R2 := fun x y H Q => r x y H Q ∨ r' x y H Q
def rOr1 (r r' : V → Hp → VK → Prop) : V → Hp → VK → Prop := fun x H Q => r x H Q ∨ r' x H Q
theorem op_or2 {f : Value → Value → Sem Value} {r r' : R2} (h : OpR X f r) (h' : OpR X f r') : OpR X f (rOr r r') := by
  intro pi s0 sl H0 y z v u Q0 J ry rz h0
  rcases h0 with h0 | h0
  · exact h _ _ _ _ _ _ _ _ _ J ry rz h0
  · exact h' _ _ _ _ _ _ _ _ _ J ry rz h0
theorem un_or2 {f : Value → Sem Value} {r r' : V → Hp → VK → Prop} (h : UnR X f r) (h' : UnR X f r') : UnR X f (rOr1 r r') := by
  intro pi s0 sl H0 y v Q0 J ry h0
  rcases h0 with h0 | h0
  · exact h _ _ _ _ _ _ _ J ry h0
  · exact h' _ _ _ _ _ _ _ J ry h0

/-! ### named operators -/
def zNeg : V → Hp → VK → Prop := fun x H Q => ∃ i, x = .int i ∧ Q (.int (-i)) H
def zAdd : R2 := fun x y H Q => ∃ i j, x = .int i ∧ y = .int j ∧ Q (.int (i + j)) H
def zSub : R2 := fun x y H Q => ∃ i j, x = .int i ∧ y = .int j ∧ Q (.int (i - j)) H
/-- a size of bits -/
def Bits (n : Nat) (i : Int) : Prop := i.natAbs < 2 ^ n
def zMul : R2 := fun x y H Q => ∃ i j, x = .int i ∧ y = .int j ∧ IntMulOk i j ∧ Q (.int (i * j)) H
def zDiv : R2 := fun x y H Q => ∃ i j, x = .int i ∧ y = .int j ∧ (j ≠ 0 ∧ j.natAbs.log2 < 9000) ∧ Q (.int (i.fdiv j)) H
def zMod : R2 := fun x y H Q => ∃ i j, x = .int i ∧ y = .int j ∧ 0 < j ∧ Q (.int (i % j)) H
def zPow : R2 := fun x y H Q => ∃ i j, x = .int i ∧ y = .int j ∧ CPow i j ∧ Q (.int (i ^ j.toNat)) H
def zLt : R2 := fun x y H Q => ∃ i j, x = .int i ∧ y = .int j ∧ Q (.bl (decide (i < j))) H
def zLe : R2 := fun x y H Q => ∃ i j, x = .int i ∧ y = .int j ∧ Q (.bl (decide (i ≤ j))) H
def zGt : R2 := fun x y H Q => ∃ i j, x = .int i ∧ y = .int j ∧ Q (.bl (decide (j < i))) H
def zGe : R2 := fun x y H Q => ∃ i j, x = .int i ∧ y = .int j ∧ Q (.bl (decide (j ≤ i))) H
def zIsN : R2 := fun x y H Q => y = .non ∧ Q (.bl (decide (x = .non))) H
def zNotN : R2 := fun x y H Q => y = .non ∧ Q (.bl (!decide (x = .non))) H
theorem o_neg : UnR X (unaryOp .USub) zNeg := un_neg
theorem o_add : OpR X (binaryOp .Add) zAdd := op_add
theorem o_sub : OpR X (binaryOp .Sub) zSub := op_sub
theorem o_mul : OpR X (binaryOp .Mult) zMul := opI fun _ _ _ _ _ _ _ hc q => mul_int q hc
theorem o_div : OpR X (binaryOp .FloorDiv) zDiv := opI (C := fun _ j => j ≠ 0 ∧ j.natAbs.log2 < 9000) fun _ _ _ _ _ _ _ hc q => floordiv_int hc.1 q (.inl (PyProof.noPylong_of_log2 hc.2))
theorem o_mod : OpR X (binaryOp .Mod) zMod := op_mod
theorem o_pow : OpR X (binaryOp .Pow) zPow := op_pow
theorem o_lt : OpR X (compareOp .Lt) zLt := op_lt
theorem o_le : OpR X (compareOp .LtE) zLe := op_le
theorem o_gt : OpR X (compareOp .Gt) zGt := op_gt
theorem o_ge : OpR X (compareOp .GtE) zGe := op_ge
theorem o_isN : OpR X (compareOp .Is) zIsN := op_isN
theorem o_notN : OpR X (compareOp .IsNot) zNotN := op_notN
end

/-! ### the readings' steps -/
section
variable {K : PySem.W.Frag} {σ : L2.St} {H : Hp} {Q : VK} {v : V} {ta tb te : TE} {r r' : R2}
theorem z_var {i : Nat} (h : σ[i]? = some (some v)) (q : Q v H) : tVar i σ H Q := ⟨v, h, q⟩
theorem z_c (q : Q v H) : tC v σ H Q := q
theorem z_op (q : ta σ H fun x H1 => tb σ H1 fun y H2 => r x y H2 Q) : tOp r ta tb σ H Q := q
theorem z_un {u : V → Hp → VK → Prop} (q : ta σ H fun x H1 => u x H1 Q) : tUn u ta σ H Q := q
theorem z_neg {i : Int} (q : Q (.int (-i)) H) : zNeg (.int i) H Q := ⟨i, rfl, q⟩
theorem z_add {i j : Int} (q : Q (.int (i + j)) H) : zAdd (.int i) (.int j) H Q := ⟨i, j, rfl, rfl, q⟩
theorem z_sub {i j : Int} (q : Q (.int (i - j)) H) : zSub (.int i) (.int j) H Q := ⟨i, j, rfl, rfl, q⟩
theorem z_mul {i j : Int} (c : IntMulOk i j) (q : Q (.int (i * j)) H) : zMul (.int i) (.int j) H Q := ⟨i, j, rfl, rfl, c, q⟩
theorem z_mulL {i j : Int} (h1 : -18446744073709551616 < i) (h2 : i < 18446744073709551616) (q : Q (.int (i * j)) H) : zMul (.int i) (.int j) H Q := z_mul (CMul.ok (.inl ⟨by simpa using h1, by simpa using h2⟩)) q
theorem z_mulR {i j : Int} (h1 : -18446744073709551616 < j) (h2 : j < 18446744073709551616) (q : Q (.int (i * j)) H) : zMul (.int i) (.int j) H Q := z_mul (CMul.ok (.inr ⟨by simpa using h1, by simpa using h2⟩)) q
theorem z_mulB {i j : Int} {a b : Nat} (ha : Bits a i) (hb : Bits b j) (h0 : 0 < a) (h1 : 0 < b) (h : a + b ≤ 1000000) (q : Q (.int (i * j)) H) : zMul (.int i) (.int j) H Q := z_mul (CMulW.ok (wide_mul ha hb h0 h1 h)) q
theorem z_divN {i j : Int} {b : Nat} (h : j ≠ 0) (hb : Bits b j) (h0 : 0 < b) (h9 : b ≤ 9000) (q : Q (.int (i.fdiv j)) H) : zDiv (.int i) (.int j) H Q := ⟨i, j, rfl, rfl, ⟨h, Nat.lt_of_lt_of_le (PySem.Flt.log2_lt_of h0 hb) h9⟩, q⟩
theorem z_div {i j : Int} {b : Nat} (h : 0 < j) (hb : Bits b j) (h0 : 0 < b) (h9 : b ≤ 9000) (q : Q (.int (i / j)) H) : zDiv (.int i) (.int j) H Q := z_divN (by omega) hb h0 h9 (by rw [Int.fdiv_eq_ediv_of_nonneg i (by omega)]; exact q)
theorem z_divS {i j : Int} (h : 0 < j) (h2 : j < 18446744073709551616) (q : Q (.int (i / j)) H) : zDiv (.int i) (.int j) H Q := z_div (b := 64) h (by unfold Bits; have e : (2 : Nat) ^ 64 = 18446744073709551616 := by decide
                                                                                                                                                      omega) (by decide) (by decide) q
theorem z_mod {i j : Int} (c : 0 < j) (q : Q (.int (i % j)) H) : zMod (.int i) (.int j) H Q := ⟨i, j, rfl, rfl, c, q⟩
theorem z_pow {i j : Int} (c : CPow i j) (q : Q (.int (i ^ j.toNat)) H) : zPow (.int i) (.int j) H Q := ⟨i, j, rfl, rfl, c, q⟩
theorem z_lt {i j : Int} (q : Q (.bl (decide (i < j))) H) : zLt (.int i) (.int j) H Q := ⟨i, j, rfl, rfl, q⟩
theorem z_le {i j : Int} (q : Q (.bl (decide (i ≤ j))) H) : zLe (.int i) (.int j) H Q := ⟨i, j, rfl, rfl, q⟩
theorem z_gt {i j : Int} (q : Q (.bl (decide (j < i))) H) : zGt (.int i) (.int j) H Q := ⟨i, j, rfl, rfl, q⟩
theorem z_ge {i j : Int} (q : Q (.bl (decide (j ≤ i))) H) : zGe (.int i) (.int j) H Q := ⟨i, j, rfl, rfl, q⟩
theorem z_isN {x : V} (q : Q (.bl (decide (x = .non))) H) : zIsN x .non H Q := ⟨rfl, q⟩
theorem z_notN {x : V} (q : Q (.bl (!decide (x = .non))) H) : zNotN x .non H Q := ⟨rfl, q⟩
theorem z_eqI {i j : Int} (q : Q (.bl (decide (i = j))) H) : rEq (.int i) (.int j) H Q := ⟨rfl, by
  have e : decide (V.int i = V.int j) = decide (i = j) := by rw [Bool.eq_iff_iff]; simp
  rw [e]; exact q⟩
theorem z_neI {i j : Int} (q : Q (.bl (!decide (i = j))) H) : rNe (.int i) (.int j) H Q := ⟨rfl, by
  have e : decide (V.int i = V.int j) = decide (i = j) := by rw [Bool.eq_iff_iff]; simp
  rw [e]; exact q⟩
theorem z_inl {x y : V} (q : r x y H Q) : rOr r r' x y H Q := .inl q
theorem z_inr {x y : V} (q : r' x y H Q) : rOr r r' x y H Q := .inr q
theorem z_nil {QA : List V → Hp → Prop} (q : QA [] H) : tNil σ H QA := q
theorem z_cons {tr : TA} {QA : List V → Hp → Prop} (q : ta σ H fun x H1 => tr σ H1 fun xs H2 => QA (x :: xs) H2) : tCons ta tr σ H QA := q
theorem z_call {sp : Sp} {dvs : List V} {W : WX} {t : TA} (q : t σ H fun vs H1 => sp (vs ++ dvs) H1 Q (fun cls d H' => W cls d σ H')) : tCallW sp dvs W t σ H Q := q
theorem z_cb {rc : List V → Hp → VK → Prop} {t : TA} (q : t σ H fun vs H1 => rc vs H1 Q) : tCB rc t σ H Q := q
theorem z_tup {t : TA} (q : t σ H fun xs H1 => xs.length ≤ sizeLine ∧ ∀ p, H1 p = none → Q (.ref p) (upd H1 p (.tup xs))) : tTup t σ H Q := q
theorem z_lst {t : TA} (q : t σ H fun xs H1 => xs.length ≤ sizeLine ∧ ∀ p, H1 p = none → Q (.ref p) (upd H1 p (.lst xs))) : tLst t σ H Q := q
theorem z_if {tt : TT} (q : tt σ H fun c H1 => if c = true then ta σ H1 Q else tb σ H1 Q) : tIf tt ta tb σ H Q := q
theorem z_andV (q : ta σ H fun x H1 => ∃ c, x = .bl c ∧ if c = true then tb σ H1 Q else Q (.bl false) H1) : tAndV ta tb σ H Q := q
theorem z_orV (q : ta σ H fun x H1 => ∃ c, x = .bl c ∧ if c = true then Q (.bl true) H1 else tb σ H1 Q) : tOrV ta tb σ H Q := q
theorem z_notV (q : ta σ H fun x H1 => ∃ c, x = .bl c ∧ Q (.bl (!c)) H1) : tNotV ta σ H Q := q
/- tests -/
variable {QB : Bool → Hp → Prop} {b : Bool} {tt tu : TT}
theorem z_test (q : te σ H fun x H1 => ∃ k, x = .bl k ∧ QB k H1) : tTest te σ H QB := q
theorem z_tb (q : te σ H fun x H1 => ∃ k, x = .bl k ∧ QB k H1) : tB te σ H QB := q
theorem z_bl (q : QB b H) : ∃ k, V.bl b = .bl k ∧ QB k H := ⟨b, rfl, q⟩
theorem z_blI {P : Bool → Prop} (q : P b) : ∃ k, V.bl b = .bl k ∧ P k := ⟨b, rfl, q⟩
theorem z_and (q : tt σ H fun c H1 => if c = true then tu σ H1 QB else QB false H1) : tAnd tt tu σ H QB := q
theorem z_or (q : tt σ H fun c H1 => if c = true then QB true H1 else tu σ H1 QB) : tOr tt tu σ H QB := q
theorem z_not (q : tt σ H fun c H1 => QB (!c) H1) : tNot tt σ H QB := q
/- statements -/
variable {D : Ends} {t u : TS}
theorem z_seq (q : t { D with nx := u D } σ H) : tSeq t u D σ H := q
theorem z_next (q : D.nx σ H) : tNext D σ H := q
theorem z_asg {i : Nat} (q : te σ H fun x H1 => D.nx (σ.set i (some x)) H1) : tAsg te (gName i) D σ H := q
theorem z_ret (q : te σ H D.rt) : tRet te D σ H := q
theorem z_retN (q : D.rt .non H) : tRetN D σ H := q
theorem z_drop (q : te σ H fun _ H1 => D.nx σ H1) : tDrop te D σ H := q
theorem z_ifS (q : tt σ H fun b H1 => if b = true then t D σ H1 else u D σ H1) : tIfS tt t u D σ H := q
theorem z_par {i j : Nat} {ta : TA} (q : ta σ H fun vs H1 => ∃ v w, vs = [v, w] ∧ D.nx ((σ.set i (some v)).set j (some w)) H1) : tPar i j ta D σ H := q
theorem z_par2 {v w : V} {P : V → V → Prop} (q : P v w) : ∃ v' w', [v, w] = [v', w'] ∧ P v' w' := ⟨v, w, rfl, q⟩
theorem z_nx {n : L2.St → Hp → Prop} {rt : VK} {bk ct : L2.St → Hp → Prop} (q : n σ H) : Ends.nx ⟨n, rt, bk, ct⟩ σ H := q
theorem z_rt {n : L2.St → Hp → Prop} {rt : VK} {bk ct : L2.St → Hp → Prop} (q : rt v H) : Ends.rt ⟨n, rt, bk, ct⟩ v H := q
theorem z_bk {n : L2.St → Hp → Prop} {rt : VK} {bk ct : L2.St → Hp → Prop} (q : bk σ H) : Ends.bk ⟨n, rt, bk, ct⟩ σ H := q
theorem z_ct {n : L2.St → Hp → Prop} {rt : VK} {bk ct : L2.St → Hp → Prop} (q : ct σ H) : Ends.ct ⟨n, rt, bk, ct⟩ σ H := q
theorem z_break (q : D.bk σ H) : tBreak D σ H := q
theorem z_cont (q : D.ct σ H) : tCont D σ H := q
/-- a decided branch -/
theorem z_T {A B : Prop} (h : A) : if true = true then A else B := by rw [if_pos rfl]; exact h
theorem z_F {A B : Prop} (h : B) : if false = true then A else B := by rw [if_neg Bool.false_ne_true]; exact h
theorem z_dT {c : Prop} [Decidable c] {A B : Prop} (hc : c) (h : A) : if decide c = true then A else B := by rw [if_pos (decide_eq_true hc)]; exact h
theorem z_dF {c : Prop} [Decidable c] {A B : Prop} (hc : ¬ c) (h : B) : if decide c = true then A else B := by rw [decide_eq_false hc, if_neg Bool.false_ne_true]; exact h
theorem z_d2 {c : Prop} [Decidable c] {A B : Prop} (h1 : c → A) (h2 : ¬ c → B) : if decide c = true then A else B := by
  by_cases h : c
  · exact z_dT h (h1 h)
  · exact z_dF h (h2 h)
theorem z_nT {c : Prop} [Decidable c] {A B : Prop} (hc : ¬ c) (h : A) : if (!decide c) = true then A else B := by rw [decide_eq_false hc]; exact z_T h
theorem z_nF {c : Prop} [Decidable c] {A B : Prop} (hc : c) (h : B) : if (!decide c) = true then A else B := by rw [decide_eq_true hc]; exact z_F h
theorem z_n2 {c : Prop} [Decidable c] {A B : Prop} (h1 : ¬ c → A) (h2 : c → B) : if (!decide c) = true then A else B := by
  by_cases h : c
  · exact z_nF h (h2 h)
  · exact z_nT h (h1 h)
theorem z_b2 {b : Bool} {A B : Prop} (h1 : b = true → A) (h2 : b = false → B) : if b = true then A else B := by
  cases b
  · exact z_F (h2 rfl)
  · exact z_T (h1 rfl)
theorem z_nn {b : Bool} {A B : Prop} (h : if b = true then B else A) : if (!b) = true then A else B := by
  cases b
  · exact z_T (by simpa using h)
  · exact z_F (by simpa using h)
end
end Z

set_option maxHeartbeats 4000000
/-! facts of the text behind the top, read by one look; the law's end -/
namespace Z
open PySem PySem.Spec PyProof.Rows L2
abbrev Frag := PySem.W.Frag
abbrev Chk := Frag → Bool
abbrev SeenZ : Type := Bool × List He.FnW
def seenK (fb : List Chk) (fn : List He.DefD) (K : Frag) : SeenZ := ((fb.all fun c => c K) && fn.all fun d => d.ok K, fn.map fun d => He.fnW K d.at_)
def dueK (fn : List He.DefD) : SeenZ := (true, fn.map He.DefD.val)
def Says (fb : List Chk) (fn : List He.DefD) (K : Frag) : Prop := seenK fb fn K = dueK fn
def seenG (n : Nat) (fb : List Chk) (fn : List He.DefD) (g : Addr → Option Obj) : SeenZ := seenK fb fn (He.frG g (He.asD g n))
def hookZ (n : Nat) (fb : List Chk) (fn : List He.DefD) : PySem.W.Hook where
  α := SeenZ
  val := fun _ => dueK fn
  obs := fun st => seenG n fb fn st.heap.get?
  says := fun _ hp => ∃ K : Frag, K.In hp ∧ Says fb fn K
  keeps := fun _ _ _ ⟨K, hin, c⟩ kp => ⟨K, PySem.W.Frag.In.keeps hin kp, c⟩
  of := fun _ _ eq => ⟨_, He.frG_in, eq⟩
theorem seenG_eq {n : Nat} {fb : List Chk} {fn : List He.DefD} {g : Addr → Option Obj} {st : Shared} (h : ∀ a, g a = st.heap.get? a) : seenG n fb fn g = (hookZ n fb fn).obs st := by
  rw [show g = st.heap.get? from funext h] <;> rfl
section
variable {fb : List Chk} {fn : List He.DefD} {K : Frag}
theorem Says.fact (c : Says fb fn K) (i : Nat) {f : Chk} (h : fb[i]? = some f := by rfl) : f K = true := by
  have q := (He.ba (congrArg (fun z : SeenZ => z.1) c)).1
  exact List.all_eq_true.mp q f (List.mem_of_getElem? h)
theorem Says.def_ (c : Says fb fn K) (i : Nat) {d : He.DefD} (h : fn[i]? = some d := by rfl) : ∃ fd, FunD K d.name d.qual d.params d.body d.scope (d.dvs K) (d.kws K) (He.fAd K d.at_) fd := by
  have q := (He.ba (congrArg (fun z : SeenZ => z.1) c)).2
  have e : fn.map (fun d => He.fnW K d.at_) = fn.map He.DefD.val := congrArg (fun z : SeenZ => z.2) c
  have e2 := congrArg (fun l => l[i]?) e
  simp only [List.getElem?_map, h, Option.map_some] at e2
  exact He.DefD.funD (Option.some.inj e2) (List.all_eq_true.mp q d (List.mem_of_getElem? h))
end
/-- what a law's proof knows of the written part -/
structure Lw0 (fb : List Chk) (fn : List He.DefD) (K : Frag) (mg : Str → Option Value) : Prop where
  at_ : ∃ h : Heap, K.In h ∧ h.Ns mainGlobals mg
  c : Says fb fn K

/-! ### the looks -/
def cGlo (x : Str) : Chk := fun K => (He.Fa.glo x).ok K
def cFree (x : Str) : Chk := fun K => (He.Fa.free x).ok K
def cVal (x : Str) (id : String) : Chk := fun K => He.eqO (PySem.W.nsIn K mainGlobals x) (some (some (.builtin id)))
def cCls (x : Str) : Chk := fun K => (He.Fa.cls x).ok K
def cNo (x f : Str) : Chk := fun K => (He.Fa.noat x f).ok K
def cMeth (x m : Str) : Chk := fun K => (He.Fa.meth x m).ok K
def cMk (x : Str) : Chk := fun K => (He.Fa.mkr x).ok K
def cExc0 (x : Str) : Chk := fun K => (He.Fa.exc x).ok K
def cExm (x y : Str) (b : Bool) : Chk := fun K => (He.Fa.exm x y b).ok K
def cSelf (x : Str) : Chk := fun K => PySem.W.selfFirst K (He.ga K x)
/-- an exception class whose own __init__ is walked -/
def oexB (K : Frag) (C : Addr) : Bool := match K.lookup C with
  | some ⟨.type t, _, .cls cd, sl⟩ => (match cd.mro, sl.toList with
    | .ref C' :: bm, [_, _, _, _, some (.builtin n), _] => decide (t = "type") && (decide (C' = C) && (decide (n = "ValueError.__new__") && (!cd.hasDel && (cd.hasDict && PySem.HandSPX.refsVE bm))))
    | _, _ => false)
  | _ => false
theorem oexB_ok {K : Frag} {C : Addr} (h : oexB K C = true) : ∃ nm q N bs bm sn sub ab col dd k0 k1 k2 k3 k5, K.lookup C = some (excClassObj nm q C N bs bm true sn sub ab col dd k0 k1 k2 k3 k5 "ValueError.__new__") ∧ PySem.HandSPX.refsVE bm = true := by
  unfold oexB at h
  split at h
  · rename_i t dd cd sl ho
    split at h
    · rename_i C' bm k0 k1 k2 k3 n k5 hm hs
      obtain ⟨h1, h⟩ := He.ba h
      obtain ⟨h2, h⟩ := He.ba h
      obtain ⟨h3, h⟩ := He.ba h
      obtain ⟨h4, h⟩ := He.ba h
      obtain ⟨h5, h6⟩ := He.ba h
      have e1 := of_decide_eq_true h1
      have e2 := of_decide_eq_true h2
      have e3 := of_decide_eq_true h3
      obtain ⟨nm, bs, mro, ns, qn, hd, sn, sub, ab, col, del⟩ := cd
      have e4 : del = false := by simpa using h4
      have e5 : hd = true := h5
      dsimp only at hm
      subst hm e4 e5 e1 e2 e3
      have hsl : sl = #[k0, k1, k2, k3, some (.builtin "ValueError.__new__"), k5] := by
        obtain ⟨l⟩ := sl
        simp only at hs
        rw [hs]
      subst hsl
      exact ⟨nm, qn, ns, bs, bm, sn, sub, ab, col, dd, k0, k1, k2, k3, k5, ho, h6⟩
    · cases h
  · cases h
def cOex (x : Str) : Chk := fun K => oexB K (He.ga K x) && (He.eqO (PySem.W.findIn K (.ref (He.ga K x)) "__setattr__") (some (some (.builtin "object.__setattr__"))) && (decide (PySem.W.subIn K (.ref (He.ga K x)) (.type "BaseException") = some true) &&
  (decide (PySem.W.typeIn K (.ref (He.ga K x)) = some (.type "type")) && (PySem.W.keepIn K (.ref (He.ga K x)) && (He.eqO (PySem.W.findIn K (.ref (He.ga K x)) "__init__") (some (some (.ref (He.ma K (He.ga K x) "__init__")))) && decide (PySem.W.typeIn K (.ref (He.ma K (He.ga K x) "__init__")) = some (.type "function")))))))
theorem oex_ok {K : Frag} {x : Str} (h : cOex x K = true) : OexC K (He.ga K x) ∧ PySem.W.findIn K (.ref (He.ga K x)) "__init__" = some (some (.ref (He.ma K (He.ga K x) "__init__"))) ∧ PySem.W.typeIn K (.ref (He.ma K (He.ga K x) "__init__")) = some (.type "function") := by
  obtain ⟨h1, h⟩ := He.ba h
  obtain ⟨h2, h⟩ := He.ba h
  obtain ⟨h3, h⟩ := He.ba h
  obtain ⟨h4, h⟩ := He.ba h
  obtain ⟨h5, h⟩ := He.ba h
  obtain ⟨h6, h7⟩ := He.ba h
  exact ⟨⟨oexB_ok h1, He.eqO_ok h2, of_decide_eq_true h3, of_decide_eq_true h4, h5⟩, He.eqO_ok h6, of_decide_eq_true h7⟩
/-- an exception of this class caught: its fields, isinstance -/
def cExcC (x : Str) : Chk := fun K => He.eqO (PySem.W.findIn K (.ref (He.ga K x)) "__getattribute__") (some (some (.builtin "BaseException.__getattribute__"))) && (He.eqO (PySem.W.findIn K (.ref (He.ga K x)) "__getattr__") (some none) && (decide (PySem.W.subIn K (.ref (He.ga K x)) (.type "BaseException") = some true) &&
  (PySem.W.hasDictIn K (He.ga K x) && (He.eqO (PySem.W.findIn K (.ref (He.ga K x)) "__class__") (some (some (.builtin "object.__class__"))) && (decide (PySem.W.specialIn K (.builtin "object.__class__") "__get__" = some (some (.builtin "getset_descriptor.__get__"))) &&
  (decide (PySem.W.takesIn K (.builtin "object.__class__") = some true) && decide (PySem.W.mroIn K (He.ga K x) (.type "object") = some true)))))))
theorem excC_ok {K : Frag} {x : Str} (h : cExcC x K = true) : ExcC K (He.ga K x) := by
  obtain ⟨h1, h⟩ := He.ba h
  obtain ⟨h2, h⟩ := He.ba h
  obtain ⟨h3, h⟩ := He.ba h
  obtain ⟨h4, h⟩ := He.ba h
  obtain ⟨h5, h⟩ := He.ba h
  obtain ⟨h6, h⟩ := He.ba h
  obtain ⟨h7, h8⟩ := He.ba h
  exact ⟨He.eqO_ok h1, He.eqO_ok h2, of_decide_eq_true h3, h4, He.eqO_ok h5, of_decide_eq_true h6, of_decide_eq_true h7, of_decide_eq_true h8⟩
theorem _root_.L2.ExcC.xf {K : Frag} {C : Addr} (c : ExcC K C) : XfC K C := ⟨c.hg, c.hk, c.hs, c.hd⟩
/-- isinstance of an instance of this class -/
structure InsK (K : Frag) (C : Addr) : Prop where
  cl : Cls K C
  ha : PySem.W.findIn K (.ref C) "__class__" = some (some (.builtin "object.__class__"))
  hn : PySem.W.specialIn K (.builtin "object.__class__") "__get__" = some (some (.builtin "getset_descriptor.__get__"))
  ht : PySem.W.takesIn K (.builtin "object.__class__") = some true
  hm : PySem.W.mroIn K C (.type "object") = some true
theorem InsK.ty {K : Frag} {C a dx : Addr} {fs : List (Str × V)} {H : Hp} (c : InsK K C) (h : H a = some (.ins C dx fs)) : TyX K H (.ref a) (.ref C) := .base (.ins h c.cl c.ha c.hn c.ht c.hm)
def cIns (x : Str) : Chk := fun K => (He.Fa.cls x).ok K && (He.eqO (PySem.W.findIn K (.ref (He.ga K x)) "__class__") (some (some (.builtin "object.__class__"))) && (decide (PySem.W.specialIn K (.builtin "object.__class__") "__get__" = some (some (.builtin "getset_descriptor.__get__"))) &&
  (decide (PySem.W.takesIn K (.builtin "object.__class__") = some true) && decide (PySem.W.mroIn K (He.ga K x) (.type "object") = some true))))
theorem insK_ok {K : Frag} {x : Str} (h : cIns x K = true) : InsK K (He.ga K x) := by
  obtain ⟨h1, h⟩ := He.ba h
  obtain ⟨h5, h⟩ := He.ba h
  obtain ⟨h6, h⟩ := He.ba h
  obtain ⟨h7, h8⟩ := He.ba h
  exact ⟨He.cls_ok h1, He.eqO_ok h5, of_decide_eq_true h6, of_decide_eq_true h7, of_decide_eq_true h8⟩
/-- isinstance's answer for an instance of x asked for the class y; for a value of the built-in type t asked for y; for an instance of x asked for the built-in type t -/
def cKit (x y : Str) (b : Bool) : Chk := fun K => decide (PySem.W.kitOne K (.ref (He.ga K x)) (.ref (He.ga K y)) = some b)
def cKitT (t : String) (y : Str) (b : Bool) : Chk := fun K => decide (PySem.W.kitOne K (.type t) (.ref (He.ga K y)) = some b)
def cKitU (x : Str) (t : String) (b : Bool) : Chk := fun K => decide (PySem.W.kitOne K (.ref (He.ga K x)) (.type t) = some b)

/-! ### isinstance of a caught exception -/
def rIsX (K : Frag) (D : Addr) (a : Addr) : List V → Hp → VK → Prop := fun xs H Q => ∃ (c : V) (cv : Value) (b : Bool), xs = [.ref a, c] ∧ ClsV c cv ∧ PySem.W.kitOne K (.ref D) cv = some b ∧ Q (.bl b) H
/-- the caught one's class is D, its dict none or a tracked one -/
theorem call_isEx {X : Cx} {a D : Addr} {oe : Obj} {cls : Value} {d : Option Addr} {pn : List (Addr × Obj)} (C : ExcC X.K D) (hz : Zc cls d oe) (hf : ∃ vs, oe.data = .fields vs) :
    CallR (X.suite a ((a, oe) :: pn)) (.builtin "isinstance") (fun xs H Q => cls = .ref D ∧ (∀ dd, d = some dd → ∃ fs, H dd = some (.xd fs)) ∧ rIsX X.K D a xs H Q) := by
  intro pi s0 sl H0 xs us Q0 J r h0
  obtain ⟨ec, hd, c, cv, b, rfl, kc, e, q⟩ := h0
  obtain ⟨u1, u2, rfl, r1, r2⟩ := vals2 r
  obtain rfl : u1 = Value.ref a := r1
  have e2 := kc.eq r2
  subst e2
  subst ec
  obtain ⟨hget, _⟩ := J.pin (a, oe) (List.mem_append_left _ List.mem_cons_self)
  obtain ⟨vs, hv⟩ := hf
  have nc : PySem.W.notCls oe := by unfold PySem.W.notCls; rw [hv] <;> rfl
  have inst : ∃ od, PySem.W.InstAt s0.heap a oe D od := by
    cases d with
    | none => exact ⟨none, hget, hz.1, nc, by rw [hz.2]; trivial⟩
    | some dd =>
      obtain ⟨fs, hx⟩ := hd dd rfl
      have ox : ObjOk X.prog X.w H0 s0.heap dd (.xd fs) := J.hok dd _ hx
      obtain ⟨mA, hns, _⟩ := ox
      obtain ⟨od, ho, _⟩ := lookIn_ns hns
      exact ⟨some od, hget, hz.1, nc, by rw [hz.2]; exact ho⟩
  obtain ⟨od, I0⟩ := inst
  have hcl : (PySem.W.clsIn X.K D).isSome = true := by
    obtain ⟨cdD, hcD, _⟩ := PySem.W.any_some C.hd
    rw [hcD] <;> rfl
  exact PySem.W.kia_one (PySem.W.kitx_exc hcl C.hg C.hk C.hs C.ha C.hn C.ht C.hm) J.kIn I0 e (fun z => nomatch z) fun tk => ⟨.bl b, H0, J.kept (t' := tk) fun _ _ z => z, rfl, q⟩

/-! ### calls within an except suite -/
section
variable {X : Cx} {k j : Nat} {sp : Sp} {x : Str} {p pos : Pos} {e : Expr} {es : List Expr} {t : TA}
theorem takesF {X : Cx} : L2N.Takes X (fun _ _ _ _ => False) := fun _ _ ⟨_, _, _, _, _, _, _, _, _, _, _, _, _, _, _, _, z⟩ => z.elim
theorem pe_ch (c : CalH X.prog X.w X.K X.mg X.base k x sp) (hr : L2H.RoomH j X.A) (hk : k ≤ j) (hot : L2H.HotC X) (ha : PA X (e :: es) t) (hg : Gl X x := by rfl)
    (hdb : (x == ("__debug__" : Str)) = false := by decide) (he : starEach (e :: es) X.env = (false, eval e X.env) :: starEach es X.env := by rfl) (hpl : (backTo pos (starEach es X.env)).any (·.1) = false := by rfl) :
    PE X (.Call (.Name x p) (e :: es) [] pos) (tCallW sp [] (fun _ _ _ _ => False) t) := by
  obtain ⟨f, fd, ps, F, hm, kp, b⟩ := c.ex
  have h := L2H.pe_callH (E := fun _ _ _ _ => False) F (hr.mono hk) hot hg hm kp b (fun σ => L2N.passAt takesF σ) ha (q := p) hdb he hpl
  refine ⟨fun pi s0 sl H0 Q0 J h0 => h.run pi s0 sl H0 Q0 J ?_⟩
  have e1 : (tCallW sp [] (fun _ _ _ _ => False) t) = L2.tCallS sp (fun _ _ _ _ => False) t := by
    unfold tCallW L2.tCallS
    funext σ H Q
    simp only [List.append_nil]
  rw [← e1]
  exact h0
end

/-! ### names of types and classes as values -/
theorem pe_ty {X : Cx} {x : Str} {pos : Pos} (n : String) (hg : Gl X x) (hm : X.mg x = none) (hv : bootBuiltins x = some (.type n)) (hn : x ≠ "__name__" := by decide) (hd : (x == ("__debug__" : Str)) = false := by decide) : PE X (.Name x pos) (tC (.ty n)) :=
  pe_bltn (v := .ty n) (u := .type n) hg hm hv rfl hn hd
theorem pe_cls {X : Cx} {x : Str} {pos : Pos} {a : Addr} (hm : X.mg x = some (.ref a)) (hg : Gl X x := by rfl) (hd : (x == ("__debug__" : Str)) = false := by decide) : PE X (.Name x pos) (tC (.ref a)) :=
  pe_glob (v := .ref a) (u := .ref a) hg hm rfl hd

/-! ### promises by the number of arguments -/
abbrev F1 := V → Hp → VK → XK → Prop
abbrev F2 := V → V → Hp → VK → XK → Prop
abbrev F3 := V → V → V → Hp → VK → XK → Prop
abbrev F4 := V → V → V → V → Hp → VK → XK → Prop
abbrev F5 := V → V → V → V → V → Hp → VK → XK → Prop
abbrev F6 := V → V → V → V → V → V → Hp → VK → XK → Prop
def sp0 (f : Hp → VK → XK → Prop) : Sp := fun vs H Q E => vs = [] ∧ f H Q E
def sp1 (f : F1) : Sp := fun vs H Q E => ∃ a, vs = [a] ∧ f a H Q E
def sp2 (f : F2) : Sp := fun vs H Q E => ∃ a b, vs = [a, b] ∧ f a b H Q E
def sp3 (f : F3) : Sp := fun vs H Q E => ∃ a b c, vs = [a, b, c] ∧ f a b c H Q E
def sp4 (f : F4) : Sp := fun vs H Q E => ∃ a b c d, vs = [a, b, c, d] ∧ f a b c d H Q E
def sp5 (f : F5) : Sp := fun vs H Q E => ∃ a b c d e, vs = [a, b, c, d, e] ∧ f a b c d e H Q E
def sp6 (f : F6) : Sp := fun vs H Q E => ∃ a b c d e g, vs = [a, b, c, d, e, g] ∧ f a b c d e g H Q E
section
variable {H : Hp} {Q : VK} {E : XK} {a b c d e g : V} {vs : List V}
theorem len0 {f : Hp → VK → XK → Prop} : ∀ vs H Q E, sp0 f vs H Q E → vs.length = 0 := by rintro _ _ _ _ ⟨rfl, _⟩; rfl
theorem len1 {f : F1} : ∀ vs H Q E, sp1 f vs H Q E → vs.length = 1 := by rintro _ _ _ _ ⟨_, rfl, _⟩; rfl
theorem len2 {f : F2} : ∀ vs H Q E, sp2 f vs H Q E → vs.length = 2 := by rintro _ _ _ _ ⟨_, _, rfl, _⟩; rfl
theorem len3 {f : F3} : ∀ vs H Q E, sp3 f vs H Q E → vs.length = 3 := by rintro _ _ _ _ ⟨_, _, _, rfl, _⟩; rfl
theorem len4 {f : F4} : ∀ vs H Q E, sp4 f vs H Q E → vs.length = 4 := by rintro _ _ _ _ ⟨_, _, _, _, rfl, _⟩; rfl
theorem len5 {f : F5} : ∀ vs H Q E, sp5 f vs H Q E → vs.length = 5 := by rintro _ _ _ _ ⟨_, _, _, _, _, rfl, _⟩; rfl
theorem len6 {f : F6} : ∀ vs H Q E, sp6 f vs H Q E → vs.length = 6 := by rintro _ _ _ _ ⟨_, _, _, _, _, _, rfl, _⟩; rfl
theorem z_sp0 {f : Hp → VK → XK → Prop} (h : f H Q E) : sp0 f [] H Q E := ⟨rfl, h⟩
theorem z_sp1 {f : F1} (h : f a H Q E) : sp1 f [a] H Q E := ⟨_, rfl, h⟩
theorem z_sp2 {f : F2} (h : f a b H Q E) : sp2 f [a, b] H Q E := ⟨_, _, rfl, h⟩
theorem z_sp3 {f : F3} (h : f a b c H Q E) : sp3 f [a, b, c] H Q E := ⟨_, _, _, rfl, h⟩
theorem z_sp4 {f : F4} (h : f a b c d H Q E) : sp4 f [a, b, c, d] H Q E := ⟨_, _, _, _, rfl, h⟩
theorem z_sp5 {f : F5} (h : f a b c d e H Q E) : sp5 f [a, b, c, d, e] H Q E := ⟨_, _, _, _, _, rfl, h⟩
theorem z_sp6 {f : F6} (h : f a b c d e g H Q E) : sp6 f [a, b, c, d, e, g] H Q E := ⟨_, _, _, _, _, _, rfl, h⟩
/- .. behind a call's written arguments -/
theorem z_sq0 {sp : Sp} (h : sp vs H Q E) : sp (vs ++ []) H Q E := by rw [List.append_nil]; exact h
theorem z_sq1 {sp : Sp} (h : sp (a :: vs) H Q E) : sp (a :: (vs ++ [])) H Q E := by rw [List.append_nil]; exact h
end

/-- nothing leaves the law -/
theorem noCX {P : Program} {w : World} (H : Hp) (s : Shared) (e : Value) (s' : Shared) (h : L2N.CX P w [] H s (fun _ _ _ => False) e s') : False := by
  obtain ⟨_, _, _, _, _, _, _, _, _, _, _, _, z⟩ := h
  exact z.elim
end Z
namespace Z
open PySem PySem.Spec PyProof.Rows L2
/-- a def of which nothing is raised -/
theorem fn_quiet {P : Program} {w : World} {K : Frag} {mg : Str → Option Value} {base : Heap} {k : Nat} {f : Addr} {fd : FuncData} {ps : List Str} {sp : Sp} (F : FnOk P w K mg base (L2N.CX P w) k f fd ps sp) (hs : ∀ vs H Q E, sp vs H Q E → sp vs H Q (fun _ _ _ => False)) :
    FnOk P w K mg base L2.CX0 k f fd ps sp :=
  ⟨F.len, fun A outer s H args us vs Q E hr he hb hv h => codeAny_mono (F.run A outer s H args us vs Q _ hr he hb hv (hs _ _ _ _ h)) fun r s1 q => by
    match r, q with
    | .ok (.ret u), q => exact q
    | .error e, q =>
      obtain ⟨_, _, _, _, _, _, _, _, _, _, _, _, z⟩ := q
      exact z.elim⟩
def spLaw (K : Frag) : Sp := fun vs H Q _ => ∃ (a : Addr) (ns : List Int), vs = [.ref a] ∧ SqL K H a (ns.map V.int) ∧ ns.length ≤ 63 ∧ ∀ H', Q (.bl true) H'
end Z

set_option maxHeartbeats 4000000
/-! what is carried from heap to heap; calls of built-ins, step by step -/
namespace Z
open PySem PySem.Spec PyProof.Rows L2
section
variable {K : Frag} {H H' H1 H2 : Hp} {Q : VK} {a : Addr} {xs : List V} {o : HO}
theorem Same.at (e : Same H H') (h : H a = some o) : H' a = some o := e a o h
theorem Same.new {p : Addr} (h : H p = none) : Same H (upd H p o) := fun b u hb => by rw [upd_ne (ne_of_none hb h)]; exact hb
theorem z_ixT {p : Addr} {i : Int} {v : V} (h : H p = some (.tup xs)) (e : atI xs i = some v) (q : Q v H) : rIx K (.ref p) (.int i) H Q := .inr (.inl ⟨p, xs, i, v, rfl, rfl, SqT.of h, e, q⟩)
theorem z_ixL {p : Addr} {i : Int} {v : V} (h : SqL K H p xs) (e : atI xs i = some v) (q : Q v H) : rIx K (.ref p) (.int i) H Q := .inl ⟨p, xs, i, v, rfl, rfl, h, e, q⟩
theorem z_new {t : List V → HO} {n : Nat} (hn : n ≤ 16777216) (k : ∀ p, H p = none → Same H (upd H p (t xs)) → upd H p (t xs) p = some (t xs) → Q (.ref p) (upd H p (t xs))) : n ≤ sizeLine ∧ ∀ p, H p = none → Q (.ref p) (upd H p (t xs)) :=
  ⟨by rw [sizeLine_eq]; exact hn, fun p hp => k p hp (Same.new hp) upd_same⟩
theorem _root_.L2.Same.step {H H1 H2 : Hp} (e : Same H H1) (h : Same H1 H2) : Same H H2 := e.trans h
/-! named calls of built-ins -/
def rInt1 : List V → Hp → VK → Prop := fun xs H Q => (∃ i, xs = [.int i] ∧ Q (.int i) H) ∨ ∃ k, xs = [.bl k] ∧ Q (.int (if k then 1 else 0)) H
def rAbs1 : List V → Hp → VK → Prop := fun xs H Q => ∃ i, xs = [.int i] ∧ Q (.int (if i < 0 then -i else i)) H
def rLen1 (K : Frag) : List V → Hp → VK → Prop := fun xs H Q => ∃ x n, xs = [x] ∧ LenV K x H n ∧ Q (.int n) H
def rMax2z : List V → Hp → VK → Prop := fun xs H Q => ∃ i j, xs = [.int i, .int j] ∧ Q (.int (if j > i then j else i)) H
def rMin2z : List V → Hp → VK → Prop := fun xs H Q => ∃ i j, xs = [.int i, .int j] ∧ Q (.int (if j < i then j else i)) H
theorem z_int1 {n : Int} (q : Q (.int n) H) : rInt1 [.int n] H Q := .inl ⟨n, rfl, q⟩
theorem z_intb {b : Bool} (q : Q (.int (if b then 1 else 0)) H) : rInt1 [.bl b] H Q := .inr ⟨b, rfl, q⟩
theorem z_abs {n : Int} (q : Q (.int (n.natAbs : Int)) H) : rAbs1 [.int n] H Q := ⟨n, rfl, by
  have e : (if n < 0 then -n else n) = (n.natAbs : Int) := by split <;> omega
  rw [e]; exact q⟩
theorem z_lenL {p : Addr} (h : SqL K H p xs) (q : Q (.int (xs.length : Int)) H) : rLen1 K [.ref p] H Q := ⟨_, _, rfl, .inl ⟨xs, h, rfl⟩, q⟩
theorem z_lenT {p : Addr} (h : H p = some (.tup xs)) (q : Q (.int (xs.length : Int)) H) : rLen1 K [.ref p] H Q := ⟨_, _, rfl, .inr ⟨xs, SqT.of h, rfl⟩, q⟩
theorem z_max2 {i j : Int} (q : Q (.int (max i j)) H) : rMax2z [.int i, .int j] H Q := ⟨i, j, rfl, by
  have e : (if j > i then j else i) = max i j := by rw [Int.max_def]; split <;> split <;> omega
  rw [e]; exact q⟩
theorem z_min2 {i j : Int} (q : Q (.int (min i j)) H) : rMin2z [.int i, .int j] H Q := ⟨i, j, rfl, by
  have e : (if j < i then j else i) = min i j := by rw [Int.min_def]; split <;> split <;> omega
  rw [e]; exact q⟩
theorem z_gcd {i j : Int} (q : Q (.int (Int.gcd i j : Nat)) H) : rGcd [.int i, .int j] H Q := ⟨i, j, rfl, q⟩
theorem z_isi {x c : V} {t u : Value} {b : Bool} (hc : ClsV c u) (ht : TyX K H x t) (hk : PySem.W.kitOne K t u = some b) (q : Q (.bl b) H) : rIsi K [x, c] H Q := ⟨x, c, t, u, b, rfl, hc, ht, hk, q⟩
theorem z_isiI {n : String} {b : Bool} {i : Int} (hk : kitB "int" n = some b) (q : Q (.bl b) H) : rIsi K [.int i, .ty n] H Q := z_isi (.ty n) (.base (.int i)) (kit_ty hk) q
theorem z_isiB {n : String} {b c : Bool} (hk : kitB "bool" n = some b) (q : Q (.bl b) H) : rIsi K [.bl c, .ty n] H Q := z_isi (.ty n) (.base (.bl c)) (kit_ty hk) q
theorem z_isi_ii {i : Int} (q : Q (.bl true) H) : rIsi K [.int i, .ty "int"] H Q := z_isiI (by decide +kernel) q
theorem z_isi_ib {i : Int} (q : Q (.bl false) H) : rIsi K [.int i, .ty "bool"] H Q := z_isiI (by decide +kernel) q
theorem cell_at {ns : List Int} {k : Int} (h0 : 0 ≤ k) (h : k < ((ns.map V.int).length : Int)) : atI (ns.map V.int) k = some (.int (ns.getD k.toNat 0)) := by
  obtain ⟨n, rfl⟩ := Int.eq_ofNat_of_zero_le h0
  have hn : n < ns.length := by
    rw [List.length_map] at h
    omega
  refine atI_nat ?_
  rw [List.getElem?_map, List.getElem?_eq_getElem hn]
  show some (V.int ns[n]) = some (V.int (ns.getD n 0))
  rw [List.getD_eq_getElem?_getD, List.getElem?_eq_getElem hn]
  rfl
theorem cell_out {ns : List Int} {k : Int} (h0 : 0 ≤ k) (h : ¬ k < ((ns.map V.int).length : Int)) : ns.getD k.toNat 0 = 0 := by
  rw [List.length_map] at h
  rw [List.getD_eq_getElem?_getD, List.getElem?_eq_none (by omega)]
  rfl
end
section
variable {X : Cx}
theorem o_int1 : CallR X (.type "int") rInt1 := call_int1
theorem o_abs : CallR X (.builtin "abs") rAbs1 := call_abs
theorem o_len : CallR X (.builtin "len") (rLen1 X.K) := call_len
theorem o_max2 (hc : X.calm = true) : CallR X (.builtin "max") rMax2z := call_max2 hc
theorem o_min2 (hc : X.calm = true) : CallR X (.builtin "min") rMin2z := call_min2 hc
end

/-! ### instances -/
/-- the fields of a Ratio -/
def rF (v w : V) : List (Str × V) := [(("top" : Str), v), (("bottom" : Str), w)]
/-- a Ratio with these fields -/
def IsR (K : Frag) (H : Hp) (a : Addr) (t b : Int) : Prop := ∃ dx, H a = some (.ins (He.ga K "Ratio") dx (rF (.int t) (.int b)))
section
variable {K : Frag} {H H' : Hp} {Q : VK} {a : Addr} {t b : Int} {v w : V}
theorem IsR.mono (e : Same H H') (h : IsR K H a t b) : IsR K H' a t b := h.elim fun dx q => ⟨dx, e _ _ q⟩
theorem tb_ne : ¬ (("top" : Str) = "bottom") := by decide +kernel
theorem bt_ne : ¬ (("bottom" : Str) = "top") := by decide +kernel
theorem rf_top : (rF v w).lookup ("top" : Str) = some v := by
  unfold rF
  rw [lookup_put, if_pos rfl]
theorem rf_bottom : (rF v w).lookup ("bottom" : Str) = some w := by
  unfold rF
  rw [lookup_put, if_neg bt_ne, lookup_put, if_pos rfl]
theorem rf_no {m : Str} (h1 : ¬ m = "top") (h2 : ¬ m = "bottom") : (rF v w).lookup m = none := by
  unfold rF
  rw [lookup_put, if_neg h1, lookup_put, if_neg h2]
  rfl
/-- .. of a name that holds one -/
theorem z_fldt {i : Nat} {p : Addr} {t b : Int} {σ : L2.St} (c : Cls K (He.ga K "Ratio")) (n : NoAttr K (He.ga K "Ratio") "top") (hs : σ[i]? = some (some (.ref p))) (h : IsR K H p t b) (q : Q (.int t) H) : tFld K (tVar i) "top" σ H Q :=
  ⟨_, hs, h.elim fun dx hp => ⟨p, _, dx, _, _, rfl, hp, c, n, rf_top, q⟩⟩
theorem z_fldb {i : Nat} {p : Addr} {t b : Int} {σ : L2.St} (c : Cls K (He.ga K "Ratio")) (n : NoAttr K (He.ga K "Ratio") "bottom") (hs : σ[i]? = some (some (.ref p))) (h : IsR K H p t b) (q : Q (.int b) H) : tFld K (tVar i) "bottom" σ H Q :=
  ⟨_, hs, h.elim fun dx hp => ⟨p, _, dx, _, _, rfl, hp, c, n, rf_bottom, q⟩⟩
end
end Z

set_option maxHeartbeats 4000000
/-! defs within an except suite; exceptions with fields; a Ratio is made -/
namespace Z
open PySem PySem.Spec PyProof.Rows L2
section
variable {P : Program} {w : World} {K : Frag} {mg : Str → Option Value} {base : Heap} {x qual : Str} {params : Arguments} {body : List Stmt} {scope : Scope} {dvs : List V} {kws : List (Str × V)} {f : Addr} {fd : FuncData}
theorem okH {N ps : List Str} {k : Nat} {sp : Sp} (F : FunD K x qual params body scope dvs kws f fd) (S : FnScope N ps scope) (len : ∀ vs H Q E, sp vs H Q E → vs.length = ps.length)
    (hbody : ∀ (cdv : Value) (A : Around) (outer : List Env) (s : Shared) (H : Hp) (vs : List V) (Q : VK) (E : XK) (p : Addr × Obj), L2H.Hot1 (A.deeper (envOfC qual scope s.heap.objs.size f cdv)) p → L2H.RoomH k (A.deeper (envOfC qual scope s.heap.objs.size f cdv)) → sp vs H Q E →
      ∃ t, PSs (L2H.cxH (L2N.CX P w) P w K mg base N qual scope f cdv A outer s H E p) body t ∧ t { nx := fun _ H' => Q .non H', rt := Q } (start N vs) H) : L2H.FnH P w K mg base (L2N.CX P w) (k + 1) f fd ps sp := by
  obtain ⟨oc, od, dV, kV, doc, pm, an, cdv, ct, osl, rfl, lk, hcd, _, _⟩ := F.ex
  exact L2H.fn_ofH lk hcd S len fun A outer s H vs Q E p h1 hr hsp => hbody cdv A outer s H vs Q E p h1 hr hsp
end
theorem hot_suite {X : Cx} {a : Addr} {oe : Obj} {cls : Value} {d : Option Addr} {pn : List (Addr × Obj)} (hz : L2N.Zn cls d oe) (hf : ∃ vs, oe.data = .fields vs) : L2H.HotC (X.suite a ((a, oe) :: pn)) := by
  obtain ⟨vs, hv⟩ := hf
  exact ⟨(a, oe), ⟨rfl, vs, hv, hz.2.2 vs hv⟩, List.mem_cons_self⟩
theorem hot_in {CX : CXT} {P : Program} {w : World} {K : Frag} {mg : Str → Option Value} {base : Heap} {N : List Str} {qual : Str} {scope : Scope} {f : Addr} {cd : Value} {A : Around} {outer : List Env} {s : Shared} {H : Hp} {E : XK} {p : Addr × Obj} (h : L2H.Hot1 (A.deeper (envOfC qual scope s.heap.objs.size f cd)) p) :
    L2H.HotC (L2H.cxH CX P w K mg base N qual scope f cd A outer s H E p) := ⟨p, h, List.mem_cons_self⟩
theorem room_suite {k : Nat} {A : Around} (r : Room k A) (h : Option Value) : L2H.RoomH k (A.mark h) := ⟨r.dp, r.un⟩

/-! ### exceptions with one field, with two -/
def fs_ex1 (K : Frag) (C : Str) (f : Str) : F2 := fun a b H Q _ => ∃ (e : Addr) (H0 : Hp), a = .ref e ∧ H = upd H0 e (exo e (He.ga K C) none) ∧ H0 e = none ∧
  ∀ (d : Addr) (H' : Hp), H' e = some (exo e (He.ga K C) (some d)) → H' d = some (exd d [(f, b)]) → H0 d = none → Same H0 (upd (del H' e) d (.xd [(f, b)])) → Q .non H'
def fs_ex2 (K : Frag) (C : Str) (f g : Str) : F3 := fun a b c H Q _ => ∃ (e : Addr) (H0 : Hp), a = .ref e ∧ H = upd H0 e (exo e (He.ga K C) none) ∧ H0 e = none ∧
  ∀ (d : Addr) (H' : Hp), H' e = some (exo e (He.ga K C) (some d)) → H' d = some (exd d [(g, c), (f, b)]) → H0 d = none → Same H0 (upd (del H' e) d (.xd [(g, c), (f, b)])) → Q .non H'
section
variable {K : Frag} {H : Hp} {Q : XK} {C : Str} {f g : Str} {u v : V} {σ : L2.St}
theorem exo_exd {a C d dx : Addr} {o : Option Addr} {fs : List (Str × V)} {h : Heap} : True := trivial
/-- raise C(v) -/
theorem z_ex1 {ta : TA} (h : ta σ H fun vs H1 => ∃ u, vs = [u] ∧ ∀ (d : Addr) (H' : Hp), Same H1 H' → H' d = some (.xd [(f, u)]) → Q (.ref (He.ga K C)) (some d) H') (mono : ∀ {R R' : List V → Hp → Prop}, (∀ vs H1, R vs H1 → R' vs H1) → ta σ H R → ta σ H R') : tMkO (He.ga K C) (sp2 (fs_ex1 K C f)) [] ta σ H Q := by
  refine mono (fun vs H1 z => ?_) h
  obtain ⟨u, rfl, k⟩ := z
  refine ⟨(by show 1 ≤ 1000; decide), fun a ha => ⟨_, _, rfl, a, H1, rfl, rfl, ha, fun d H' e1 e2 hd s => ⟨rfl, d, _, e1, e2, hd, k d _ s upd_same⟩⟩⟩
theorem z_ex2 {ta : TA} (h : ta σ H fun vs H1 => ∃ u v, vs = [u, v] ∧ ∀ (d : Addr) (H' : Hp), Same H1 H' → H' d = some (.xd [(g, v), (f, u)]) → Q (.ref (He.ga K C)) (some d) H') (mono : ∀ {R R' : List V → Hp → Prop}, (∀ vs H1, R vs H1 → R' vs H1) → ta σ H R → ta σ H R') : tMkO (He.ga K C) (sp3 (fs_ex2 K C f g)) [] ta σ H Q := by
  refine mono (fun vs H1 z => ?_) h
  obtain ⟨u, v, rfl, k⟩ := z
  refine ⟨(by show 2 ≤ 1000; decide), fun a ha => ⟨_, _, _, rfl, a, H1, rfl, rfl, ha, fun d H' e1 e2 hd s => ⟨rfl, d, _, e1, e2, hd, k d _ s upd_same⟩⟩⟩
end
section
variable {K : Frag} {H H0 : Hp} {Q : VK} {E : XK} {C : Str} {f g : Str} {b c : V} {D : Ends} {σ : L2.St}
/-- self.f = b -/
theorem run_ex1 {e : Addr} (T : OexC K (He.ga K C)) (nf : PySem.W.findIn K (.ref (He.ga K C)) f = some none) (h0 : H0 e = none) (s0 : σ[0]? = some (some (.ref e))) (s1 : σ[1]? = some (some b))
    (k : ∀ (d : Addr) (H' : Hp), H' e = some (exo e (He.ga K C) (some d)) → H' d = some (exd d [(f, b)]) → H0 d = none → Same H0 (upd (del H' e) d (.xd [(f, b)])) → D.nx σ H') :
    tOst K f (tVar 0) (tVar 1) D σ (upd H0 e (exo e (He.ga K C) none)) := by
  refine ⟨_, s1, _, s0, e, _, rfl, T, nf, .inl ⟨upd_same, fun d hd ne => ?_⟩⟩
  have hd0 : H0 d = none := by rw [upd_ne ne] at hd; exact hd
  refine k d _ upd_same (by rw [upd_ne ne, upd_same]) hd0 fun x o hx => ?_
  rw [upd_ne (ne_of_none hx hd0), del_ne (ne_of_none hx h0), upd_ne (ne_of_none hx h0), upd_ne (ne_of_none hx hd0), upd_ne (ne_of_none hx h0)]
  exact hx
theorem run_ex2 {e : Addr} (T : OexC K (He.ga K C)) (nf : PySem.W.findIn K (.ref (He.ga K C)) f = some none) (ng : PySem.W.findIn K (.ref (He.ga K C)) g = some none) (h0 : H0 e = none) (s0 : σ[0]? = some (some (.ref e))) (s1 : σ[1]? = some (some b)) (s2 : σ[2]? = some (some c))
    (k : ∀ (d : Addr) (H' : Hp), H' e = some (exo e (He.ga K C) (some d)) → H' d = some (exd d [(g, c), (f, b)]) → H0 d = none → Same H0 (upd (del H' e) d (.xd [(g, c), (f, b)])) → D.nx σ H') :
    tSeq (tOst K f (tVar 0) (tVar 1)) (tOst K g (tVar 0) (tVar 2)) D σ (upd H0 e (exo e (He.ga K C) none)) := by
  refine ⟨_, s1, _, s0, e, _, rfl, T, nf, .inl ⟨upd_same, fun d hd ne => ?_⟩⟩
  have hd0 : H0 d = none := by rw [upd_ne ne] at hd; exact hd
  refine ⟨_, s2, _, s0, e, _, rfl, T, ng, .inr ⟨d, _, upd_same, by rw [upd_ne ne, upd_same], (by show 1 ≤ 900; decide), ?_⟩⟩
  refine k d _ (by rw [upd_ne ne.symm, upd_same]) upd_same hd0 fun x o hx => ?_
  rw [upd_ne (ne_of_none hx hd0), del_ne (ne_of_none hx h0), upd_ne (ne_of_none hx hd0), upd_ne (ne_of_none hx h0), upd_ne (ne_of_none hx hd0), upd_ne (ne_of_none hx h0)]
  exact hx
end

/-! ### a Ratio is made -/
def rc (n d : Int) : Int := if d < 0 then -((Int.gcd n d : Nat) : Int) else ((Int.gcd n d : Nat) : Int)
def rt (n d : Int) : Int := n.fdiv (rc n d)
def rb (n d : Int) : Int := d.fdiv (rc n d)
theorem rc_ne {n d : Int} (h : d ≠ 0) : rc n d ≠ 0 := by
  have : 0 < Int.gcd n d := Int.gcd_pos_of_ne_zero_right n h
  unfold rc
  split <;> omega
theorem rc_bits {n d : Int} {b : Nat} (h : d ≠ 0) (hb : Bits b d) : Bits b (rc n d) := by
  have h1 : Int.gcd n d ≤ d.natAbs := Nat.le_of_dvd (by omega) (by
    show Nat.gcd n.natAbs d.natAbs ∣ d.natAbs
    exact Nat.gcd_dvd_right _ _)
  unfold Bits at *
  unfold rc
  split <;> omega
theorem rt_pos {n d : Int} (h : 0 < d) : rt n d = n / (Int.gcd n d : Nat) ∧ rb n d = d / (Int.gcd n d : Nat) := by
  have e : rc n d = ((Int.gcd n d : Nat) : Int) := by unfold rc; rw [if_neg (by omega)]
  unfold rt rb
  rw [e, Int.fdiv_eq_ediv_of_nonneg _ (by omega), Int.fdiv_eq_ediv_of_nonneg _ (by omega)]
  exact ⟨rfl, rfl⟩
theorem rt_low {n d : Int} (h : 0 < d) (g : Int.gcd n d = 1) : rt n d = n ∧ rb n d = d := by
  obtain ⟨e1, e2⟩ := rt_pos (n := n) h
  rw [e1, e2, g]
  exact ⟨Int.ediv_one n, Int.ediv_one d⟩
theorem rt_spec {n d : Int} (h : 0 < d) : 0 < rb n d ∧ Int.gcd (rt n d) (rb n d) = 1 ∧ rt n d * d = n * rb n d := by
  obtain ⟨e1, e2⟩ := rt_pos (n := n) h
  have g0 : 0 < Int.gcd n d := Int.gcd_pos_of_ne_zero_right n (by omega)
  rw [e1, e2]
  refine ⟨?_, ?_, ?_⟩
  · exact Int.ediv_pos_of_pos_of_dvd h (by omega) (Int.gcd_dvd_right ..)
  · exact Int.gcd_ediv_gcd_ediv_gcd g0
  · obtain ⟨x, ex⟩ := Int.gcd_dvd_left (a := n) (b := d)
    obtain ⟨y, ey⟩ := Int.gcd_dvd_right (a := n) (b := d)
    generalize ((Int.gcd n d : Nat) : Int) = g at *
    have gn : g ≠ 0 := by
      intro z
      subst z
      simp at ey
      omega
    have q1 : n / g = x := by rw [ex, Int.mul_ediv_cancel_left _ gn]
    have q2 : d / g = y := by rw [ey, Int.mul_ediv_cancel_left _ gn]
    rw [q1, q2, ex, ey]
    grind
def fs_rinit (K : Frag) : F3 := fun a b c H Q E => ∃ (x dx : Addr) (H0 : Hp) (n d : Int), a = .ref x ∧ b = .int n ∧ c = .int d ∧ H = upd (upd H0 dx (.own x)) x (.ins (He.ga K "Ratio") dx []) ∧ H0 x = none ∧ H0 dx = none ∧ dx ≠ x ∧ Bits 8999 d ∧
  (d ≠ 0 → ∀ H', Same H0 H' → IsR K H' x (rt n d) (rb n d) → Q .non H') ∧ (d = 0 → ∀ H', Same H0 H' → E (.ref (He.ga K "ZeroBottom")) none H')
section
variable {K : Frag} {H : Hp} {Q : VK} {E : XK}
/-- Ratio(n, d) -/
theorem z_mkR {n d : Int} (hd : d ≠ 0) (hb : Bits 8999 d) (k : ∀ p H', Same H H' → IsR K H' p (rt n d) (rb n d) → Q (.ref p) H') :
    ∀ x dx, H x = none → H dx = none → dx ≠ x → sp3 (fs_rinit K) [.ref x, .int n, .int d] (upd (upd H dx (.own x)) x (.ins (He.ga K "Ratio") dx [])) (fun v H2 => v = .non ∧ Q (.ref x) H2) E :=
  fun x dx hx hdx ne => ⟨_, _, _, rfl, x, dx, H, n, d, rfl, rfl, rfl, rfl, hx, hdx, ne, hb, fun _ H' e r => ⟨rfl, k x H' e r⟩, fun z => absurd z hd⟩
/-- the two stores -/
theorem run_rinit {D : Ends} {σ : L2.St} {x dx : Addr} {H0 : Hp} {C : Addr} {tv tu : TE} {a b : V} (cl : Cls K C) (n1 : NoAttr K C "top") (n2 : NoAttr K C "bottom") (h0 : H0 x = none) (h1 : H0 dx = none) (ne : dx ≠ x) (s0 : σ[0]? = some (some (.ref x)))
    (e1 : ∀ H1, ∀ Q : VK, Q a H1 → tv σ H1 Q) (e2 : ∀ H1, ∀ Q : VK, Q b H1 → tu σ H1 Q) (k : ∀ H', Same H0 H' → H' x = some (.ins C dx (rF a b)) → D.nx σ H') :
    tSeq (sFld K (tVar 0) tv "top") (sFld K (tVar 0) tu "bottom") D σ (upd (upd H0 dx (.own x)) x (.ins C dx [])) := by
  refine e1 _ _ ⟨_, s0, x, C, dx, _, rfl, upd_same, cl, n1, by decide, ?_⟩
  refine e2 _ _ ⟨_, s0, x, C, dx, _, rfl, upd_same, cl, n2, by show 1 < 1000; decide, ?_⟩
  refine k _ (fun y o hy => ?_) ?_
  · rw [upd_ne (ne_of_none hy h0), upd_ne (ne_of_none hy h0), upd_ne (ne_of_none hy h0), upd_ne (ne_of_none hy h1)]
    exact hy
  · rw [upd_same]
    have e : putF "bottom" b (putF "top" a []) = rF a b := by
      show (if ("top" : Str) = "bottom" then _ else (("top" : Str), a) :: putF "bottom" b []) = _
      rw [if_neg tb_ne]
      rfl
    rw [e]
end
end Z
namespace Z
open PySem PySem.Spec PyProof.Rows L2
section
variable {K : Frag} {x qual : Str} {params : Arguments} {body : List Stmt} {scope : Scope} {dvs : List V} {kws : List (Str × V)} {f : Addr} {fd : FuncData} {ps : List Str}
/-- called with keywords in the reversed order, no defaults -/
theorem kbN (F : FunD K x qual params body scope [] kws f fd) (n : Nat) (ks : List Str)
    (h : ∀ (kV doc pm : Value) (an : Option Addr) (cdv ct : Value) (us ws : List Value), us.length = n → ws.length = ks.length → bindArgs (PySem.W.fnOf x qual params body scope .none kV doc pm an cdv ct) ⟨us, ks.zip ws⟩ = pure (ps.zip (us ++ ws.reverse))) :
    KBn K fd ps n ks (fun us ws => us ++ ws.reverse) (fun vs zs => vs ++ zs.reverse) := by
  obtain ⟨oc, od, dV, kV, doc, pm, an, cdv, ct, osl, rfl, lk, hcd, hD, hK⟩ := F.ex
  rcases hD with ⟨_, rfl⟩ | ⟨e, _⟩
  · exact ⟨fun s us ws _ l1 l2 => .of_eq (h kV doc pm an cdv ct us ws l1 l2), fun r1 r2 => r1.append r2.reverse⟩
  · exact absurd rfl e
/-- .. all defaults overruled -/
theorem kbD (F : FunD K x qual params body scope dvs kws f fd) (n : Nat) (ks : List Str) (hd : dvs ≠ [])
    (h : ∀ (T : Addr) (kV doc pm : Value) (an : Option Addr) (cdv ct : Value) (us its ws : List Value), us.length = n → its.length = dvs.length → ws.length = ks.length →
      ∃ k, bindArgs (PySem.W.fnOf x qual params body scope (.ref T) kV doc pm an cdv ct) ⟨us, ks.zip ws⟩ = seqItems? (.ref T) >>= k ∧ k (some its.toArray) = pure (ps.zip (us ++ ws.reverse))) :
    KBn K fd ps n ks (fun us ws => us ++ ws.reverse) (fun vs zs => vs ++ zs.reverse) := by
  obtain ⟨its, h2⟩ := F.kbindsD (ps := ps) n ks (fun us _ ws => us ++ ws.reverse) hd (fun r1 _ r3 => r1.append r3.reverse) h
  exact h2
end
end Z

set_option maxHeartbeats 4000000
/-! more steps of reading: makes, methods, loops over a range, wide products -/
namespace Z
open PySem PySem.Spec PyProof.Rows L2
section
variable {K : Frag} {σ : L2.St} {H : Hp} {Q : VK} {v : V} {ta tb te : TE} {t : TA} {sp : Sp} {dvs : List V} {W : WX} {C : Addr} {m : Str} {E : XK}
/-- a class is made of these values -/
def zMk (C : Addr) (sp : Sp) (dvs : List V) (E : XK) (vs : List V) (H : Hp) (Q : VK) : Prop := ∀ x dx, H x = none → H dx = none → dx ≠ x → sp (.ref x :: (vs ++ dvs)) (upd (upd H dx (.own x)) x (.ins C dx [])) (fun v H2 => v = .non ∧ Q (.ref x) H2) E
theorem z_mk (q : t σ H fun vs H1 => zMk C sp dvs (fun cls d H' => W cls d σ H') vs H1 Q) : tMakeW C sp dvs W t σ H Q := q
/-- a method of this value -/
def zMt (C : Addr) (m : Str) (x : V) (H : Hp) (R : Prop) : Prop := ∃ a dx fs, x = .ref a ∧ H a = some (.ins C dx fs) ∧ fs.lookup m = none ∧ R
theorem z_mt (q : ta σ H fun x H1 => zMt C m x H1 (t σ H1 fun vs H2 => sp (x :: (vs ++ dvs)) H2 Q (fun cls d H' => W cls d σ H'))) : tMethW C m sp dvs W ta t σ H Q := q
theorem z_mtR {p : Addr} {a b : Int} {R : Prop} (h : IsR K H p a b) (q : R) (h1 : ¬ m = "top" := by decide +kernel) (h2 : ¬ m = "bottom" := by decide +kernel) : zMt (He.ga K "Ratio") m (.ref p) H R := h.elim fun dx hp => ⟨p, dx, _, rfl, hp, rf_no h1 h2, q⟩
/-- a sign before a Ratio -/
theorem z_ownN {p : Addr} {a b : Int} {u : V → Hp → VK → Prop} (h : IsR K H p a b) (q : sp [.ref p] H Q E) : rOr1 u (rOwn1 (He.ga K "Ratio") sp E) (.ref p) H Q := .inr (h.elim fun dx hp => ⟨p, dx, _, rfl, hp, q⟩)
theorem z_ownI {i : Int} {u : V → Hp → VK → Prop} (q : u (.int i) H Q) : rOr1 u (rOwn1 C sp E) (.int i) H Q := .inl q
/-- numbers of up to 200 bits -/
theorem bits_of {i : Int} (h1 : -1606938044258990275541962092341162602522202993782792835301376 < i) (h2 : i < 1606938044258990275541962092341162602522202993782792835301376) : Bits 200 i := by
  unfold Bits
  have e : (2 : Nat) ^ 200 = 1606938044258990275541962092341162602522202993782792835301376 := by decide
  omega
theorem bits_up {i : Int} {a b : Nat} (h : Bits a i) (hb : a ≤ b) : Bits b i := Nat.lt_of_lt_of_le h (Nat.pow_le_pow_right (by decide) hb)
theorem z_mulW {i j : Int} (h1 : -1606938044258990275541962092341162602522202993782792835301376 < i) (h2 : i < 1606938044258990275541962092341162602522202993782792835301376) (h3 : -1606938044258990275541962092341162602522202993782792835301376 < j) (h4 : j < 1606938044258990275541962092341162602522202993782792835301376) (q : Q (.int (i * j)) H) : zMul (.int i) (.int j) H Q :=
  z_mulB (bits_of h1 h2) (bits_of h3 h4) (by decide) (by decide) (by decide) q
theorem mulW_ok {i j : Int} (h1 : -1606938044258990275541962092341162602522202993782792835301376 < i) (h2 : i < 1606938044258990275541962092341162602522202993782792835301376) (h3 : -1606938044258990275541962092341162602522202993782792835301376 < j) (h4 : j < 1606938044258990275541962092341162602522202993782792835301376) : IntMulOk i j :=
  CMulW.ok (wide_mul (bits_of h1 h2) (bits_of h3 h4) (by decide) (by decide) (by decide))
theorem z_divW {i j : Int} (h : 0 < j) (h2 : j < 1606938044258990275541962092341162602522202993782792835301376) (q : Q (.int (i / j)) H) : zDiv (.int i) (.int j) H Q := z_div h (bits_of (by omega) h2) (by decide) (by decide) q
theorem z_mkR2 {n d : Int} (hd : d ≠ 0) (h1 : -1606938044258990275541962092341162602522202993782792835301376 < d) (h2 : d < 1606938044258990275541962092341162602522202993782792835301376) (k : ∀ p H', Same H H' → IsR K H' p (rt n d) (rb n d) → Q (.ref p) H') : zMk (He.ga K "Ratio") (sp3 (fs_rinit K)) [] E [.int n, .int d] H Q :=
  z_mkR hd (bits_up (bits_of h1 h2) (by decide)) k
theorem z_mkR1 {n : Int} (k : ∀ p H', Same H H' → IsR K H' p n 1 → Q (.ref p) H') : zMk (He.ga K "Ratio") (sp3 (fs_rinit K)) [.int 1] E [.int n] H Q :=
  z_mkR (n := n) (d := 1) (by decide) (bits_up (bits_of (by decide) (by decide)) (by decide)) fun p H' s h => k p H' s (by
    obtain ⟨e1, e2⟩ := rt_low (n := n) (d := 1) (by decide) (Int.gcd_one_right ..)
    rw [e1, e2] at h
    exact h)
/-- isinstance of a Ratio -/
theorem z_isR {p : Addr} {a b : Int} {C2 : Addr} {c : Bool} (I : InsK K (He.ga K "Ratio")) (hk : PySem.W.kitOne K (.ref (He.ga K "Ratio")) (.ref C2) = some c) (h : IsR K H p a b) (q : Q (.bl c) H) : rIsi K [.ref p, .ref C2] H Q := by
  obtain ⟨dx, hp⟩ := h
  exact z_isi (.own C2) (I.ty hp) hk q
/-- a for loop over a range -/
def zRng (g : TG) (tb : TS) (D : Ends) (σ : L2.St) (a b : Int) (H : Hp) : Prop := (-(2 ^ 62) ≤ a ∧ a < 2 ^ 62 ∧ -(2 ^ 62) ≤ b ∧ b < 2 ^ 62) ∧ ∃ I : Int → L2.St → Hp → Prop, I a σ H ∧
  (∀ x σ H, a ≤ x → x < b → I x σ H → g (.int x) σ H fun σ2 H2 => tb { D with nx := I (x + 1), ct := I (x + 1), bk := D.nx } σ2 H2) ∧ ∀ x σ H, a ≤ x → b ≤ x → (a ≤ b → x = b) → I x σ H → D.nx σ H
theorem z_rng {g : TG} {tb : TS} {D : Ends} {a b : Int} (h : zRng g tb D σ a b H) {J : It} (hJ : J = Itr a (b - a).toNat) : ∃ W : Nat → Nat → L2.St → Hp → Prop, (∃ m, W 0 m σ H) ∧ ∀ i m σ H, W i m σ H →
    (J.stop i H ∧ D.nx σ H) ∨ (J.go i H ∧ ∃ N : L2.St → Hp → Prop, (∀ σ' H', N σ' H' → ∃ m', m' < m ∧ W (i + 1) m' σ' H') ∧ ∀ x H', J.yld i H x H' → g x σ H' fun σ2 H2 => tb { D with nx := N, ct := N, bk := D.nx } σ2 H2) := by
  subst hJ
  obtain ⟨hs, I, h0, h1, h2⟩ := h
  refine ⟨fun i m σ H => I (a + i) σ H ∧ i + m = (b - a).toNat, ⟨(b - a).toNat, by simpa using h0, by omega⟩, fun i m σ H w => ?_⟩
  obtain ⟨w, e⟩ := w
  by_cases c : i < (b - a).toNat
  · refine .inr ⟨c, I (a + i + 1), fun σ' H' z => ⟨m - 1, by omega, ?_, by omega⟩, ?_⟩
    · have e2 : a + ((i + 1 : Nat) : Int) = a + i + 1 := by omega
      rw [e2]
      exact z
    · rintro x H' ⟨rfl, rfl⟩
      exact h1 _ _ _ (by omega) (by omega) w
  · exact .inl ⟨by show (b - a).toNat ≤ i; omega, h2 _ _ _ (by omega) (by omega) (by omega) w⟩
def zRg (g : TG) (tb : TS) (D : Ends) (σ : L2.St) (vs : List V) (H1 : Hp) : Prop := ∃ i j : Int, vs = [.int i, .int j] ∧ (-(2 ^ 62) ≤ i ∧ i < 2 ^ 62 ∧ -(2 ^ 62) ≤ j ∧ j < 2 ^ 62) ∧ ∃ W : Nat → Nat → L2.St → Hp → Prop, (∃ m, W 0 m σ H1) ∧ ∀ k m σ H, W k m σ H →
    ((Itr i (j - i).toNat).stop k H ∧ D.nx σ H) ∨ ((Itr i (j - i).toNat).go k H ∧ ∃ N : L2.St → Hp → Prop, (∀ σ' H', N σ' H' → ∃ m', m' < m ∧ W (k + 1) m' σ' H') ∧ ∀ x H', (Itr i (j - i).toNat).yld k H x H' → g x σ H' fun σ2 H2 => tb { D with nx := N, ct := N, bk := D.nx } σ2 H2)
theorem z_for2 {g : TG} {tb : TS} {D : Ends} (q : t σ H fun vs H1 => zRg g tb D σ vs H1) : tFor (iRng2 t) g tb D σ H := q
theorem z_rg {g : TG} {tb : TS} {D : Ends} {a b : Int} (h : zRng g tb D σ a b H) : zRg g tb D σ [.int a, .int b] H := ⟨a, b, rfl, h.1, z_rng h rfl⟩
/-- an exception with two fields is made -/
def zMkO (C : Addr) (sp : Sp) (dvs : List V) (vs : List V) (H1 : Hp) (Q : XK) : Prop := vs.length ≤ 1000 ∧ ∀ a, H1 a = none → sp (.ref a :: (vs ++ dvs)) (upd H1 a (exo a C none)) (fun v H2 => v = .non ∧ ∃ (d : Addr) (fs : List (Str × V)), H2 a = some (exo a C (some d)) ∧ H2 d = some (exd d fs) ∧ H1 d = none ∧ Q (.ref C) (some d) (upd (del H2 a) d (.xd fs))) (fun _ _ _ => False)
theorem z_mko {Q : XK} (q : t σ H fun vs H1 => zMkO C sp dvs vs H1 Q) : tMkO C sp dvs t σ H Q := q
theorem z_exo2 {c f g : Str} {u v : V} {Q : XK} (k : ∀ (d : Addr) (H' : Hp), Same H H' → H' d = some (.xd [(g, v), (f, u)]) → Q (.ref (He.ga K c)) (some d) H') : zMkO (He.ga K c) (sp3 (fs_ex2 K c f g)) [] [u, v] H Q :=
  ⟨by show 2 ≤ 1000; decide, fun a ha => ⟨_, _, _, rfl, a, H, rfl, rfl, ha, fun d H' e1 e2 hd s => ⟨rfl, d, _, e1, e2, hd, k d _ s upd_same⟩⟩⟩
theorem z_exo1 {c f : Str} {u : V} {Q : XK} (k : ∀ (d : Addr) (H' : Hp), Same H H' → H' d = some (.xd [(f, u)]) → Q (.ref (He.ga K c)) (some d) H') : zMkO (He.ga K c) (sp2 (fs_ex1 K c f)) [] [u] H Q :=
  ⟨by show 1 ≤ 1000; decide, fun a ha => ⟨_, _, rfl, a, H, rfl, rfl, ha, fun d H' e1 e2 hd s => ⟨rfl, d, _, e1, e2, hd, k d _ s upd_same⟩⟩⟩
end
end Z
namespace Z
open PySem PySem.Spec PyProof.Rows L2
section
variable {K : Frag} {σ : L2.St} {H : Hp} {Q : VK} {ta : TE} {t : TA} {g : TG}
theorem z_slL {p : Addr} {xs : List V} {lo hi : Option Int} (h : SqL K H p xs) (q : ∀ r, H r = none → Same H (upd H r (.lst (cutV xs lo hi))) → SqL K (upd H r (.lst (cutV xs lo hi))) r (cutV xs lo hi) → Q (.ref r) (upd H r (.lst (cutV xs lo hi)))) : rSlL K (.ref p) lo hi H Q :=
  ⟨p, xs, rfl, h, fun r hr => q r hr (Same.new hr) (SqL.of upd_same)⟩
/-- a tuple, a list just made -/
theorem z_newT {xs : List V} (hn : xs.length ≤ 16777216) (k : ∀ p, H p = none → Same H (upd H p (.tup xs)) → upd H p (.tup xs) p = some (.tup xs) → Q (.ref p) (upd H p (.tup xs))) : xs.length ≤ sizeLine ∧ ∀ p, H p = none → Q (.ref p) (upd H p (.tup xs)) :=
  z_new (t := .tup) hn k
theorem z_newL {xs : List V} (hn : xs.length ≤ 16777216) (k : ∀ p, H p = none → Same H (upd H p (.lst xs)) → SqL K (upd H p (.lst xs)) p xs → Q (.ref p) (upd H p (.lst xs))) : xs.length ≤ sizeLine ∧ ∀ p, H p = none → Q (.ref p) (upd H p (.lst xs)) :=
  z_new (t := .lst) hn fun p h1 h2 h3 => k p h1 h2 (SqL.of h3)
theorem z_gn {i : Nat} {v : V} {D : L2.St → Hp → Prop} (q : D (σ.set i (some v)) H) : gName i v σ H D := q
theorem z_gcons {u : TGs} {v : V} {vs : List V} {D : L2.St → Hp → Prop} (q : g v σ H fun σ' H' => u vs σ' H' D) : gCons g u (v :: vs) σ H D := ⟨v, vs, rfl, q⟩
theorem z_gnil {D : L2.St → Hp → Prop} (q : D σ H) : gNil [] σ H D := ⟨rfl, q⟩
/-- a tuple taken apart -/
theorem z_gtup {D : L2.St → Hp → Prop} {p : Addr} {xs : List V} {n : Nat} {ts : TGs} (h : H p = some (.tup xs)) (hl : xs.length = n) (q : ts xs σ H D) : gTup K n ts (.ref p) σ H D := ⟨p, xs, rfl, SqT.of h, hl, q⟩
/-- two ends: a tuple of two tuples -/
def IsE (H : Hp) (e : Addr) (lt lb ht hb : Int) : Prop := ∃ a b, H e = some (.tup [.ref a, .ref b]) ∧ H a = some (.tup [.int lt, .int lb]) ∧ H b = some (.tup [.int ht, .int hb])
theorem IsE.mono {H' : Hp} {e : Addr} {lt lb ht hb : Int} (s : Same H H') (h : IsE H e lt lb ht hb) : IsE H' e lt lb ht hb := by
  obtain ⟨a, b, h1, h2, h3⟩ := h
  exact ⟨a, b, s _ _ h1, s _ _ h2, s _ _ h3⟩
def zNewT (xs : List V) (H : Hp) (Q : VK) : Prop := xs.length ≤ sizeLine ∧ ∀ p, H p = none → Q (.ref p) (upd H p (.tup xs))
def zNewL (xs : List V) (H : Hp) (Q : VK) : Prop := xs.length ≤ sizeLine ∧ ∀ p, H p = none → Q (.ref p) (upd H p (.lst xs))
theorem z_tupN (q : t σ H fun xs H1 => zNewT xs H1 Q) : tTup t σ H Q := q
theorem z_lstN (q : t σ H fun xs H1 => zNewL xs H1 Q) : tLst t σ H Q := q
theorem z_asgG {te : TE} {D : Ends} (q : te σ H fun x H1 => g x σ H1 D.nx) : tAsg te g D σ H := q
/-- the new heap under its own name -/
theorem z_nt {xs : List V} (hn : xs.length ≤ 16777216) (k : ∀ p H', H p = none → Same H H' → H' p = some (.tup xs) → Q (.ref p) H') : zNewT xs H Q :=
  z_newT hn fun p h1 h2 h3 => k p _ h1 h2 h3
theorem z_nl {xs : List V} (hn : xs.length ≤ 16777216) (k : ∀ p H', H p = none → Same H H' → SqL K H' p xs → Q (.ref p) H') : zNewL xs H Q :=
  z_newL hn fun p h1 h2 h3 => k p _ h1 h2 h3
end
end Z

set_option maxHeartbeats 4000000
/-! lists just made, powers, keyword calls, caught exceptions, sizes of reduced parts -/
namespace Z
open PySem PySem.Spec PyProof.Rows L2
section
variable {K : Frag} {σ : L2.St} {H : Hp} {Q : VK} {te : TE} {t tk : TA} {sp : Sp} {E : XK}
theorem z_nlR {xs : List V} (hn : xs.length ≤ 16777216) (k : ∀ p H', H p = none → Same H H' → H' p = some (.lst xs) → Q (.ref p) H') : zNewL xs H Q :=
  z_new (t := .lst) hn fun p h1 h2 h3 => k p _ h1 h2 h3
theorem z_p6 (q : Q (.int 1000000) H) : zPow (.int 10) (.int 6) H Q := z_pow ⟨by decide, by decide, by decide⟩ q
theorem z_p12 (q : Q (.int 1000000000000) H) : zPow (.int 10) (.int 12) H Q := z_pow ⟨by decide, by decide, by decide⟩ q
theorem z_p13 (q : Q (.int 10000000000000) H) : zPow (.int 10) (.int 13) H Q := z_pow ⟨by decide, by decide, by decide⟩ q
theorem z_calln {n m : Nat} {gV : List V → List V → List V} (q : t σ H fun vs H1 => tk σ H1 fun zs H2 => vs.length = n ∧ zs.length = m ∧ sp (gV vs zs) H2 Q E) : tCallN n m sp gV E t tk σ H Q := q
/-- a field of the caught exception -/
def zXf (a : Addr) (cls : Value) (d : Option Addr) (C : Addr) (f : Str) (x : V) (H : Hp) (Q : VK) : Prop := x = .ref a ∧ cls = .ref C ∧ ∃ (dd : Addr) (fs : List (Str × V)) (v : V), d = some dd ∧ H dd = some (.xd fs) ∧ fs.lookup f = some v ∧ Q v H
theorem z_xfS {a : Addr} {cls : Value} {d : Option Addr} {C : Addr} {f : Str} (q : te σ H fun x H1 => zXf a cls d C f x H1 Q) : tXf a cls d C f te σ H Q := q
theorem z_xf {a d C : Addr} {f : Str} {fs : List (Str × V)} {v : V} (h : H d = some (.xd fs)) (l : fs.lookup f = some v) (q : Q v H) : zXf a (.ref C) (some d) C f (.ref a) H Q := ⟨rfl, rfl, d, fs, v, rfl, h, l, q⟩
theorem look2a {f g : Str} {u v : V} : ([(g, v), (f, u)] : List (Str × V)).lookup g = some v := by rw [lookup_put, if_pos rfl]
theorem look2b {f g : Str} {u v : V} (h : ¬ f = g := by decide +kernel) : ([(g, v), (f, u)] : List (Str × V)).lookup f = some u := by rw [lookup_put, if_neg h, lookup_put, if_pos rfl]
/-- isinstance of the caught exception -/
theorem z_isX {a d D C : Addr} {fs : List (Str × V)} {b : Bool} (h : H d = some (.xd fs)) (hk : PySem.W.kitOne K (.ref D) (.ref C) = some b) (q : Q (.bl b) H) :
    (.ref D : Value) = .ref D ∧ (∀ dd, some d = some dd → ∃ fs, H dd = some (.xd fs)) ∧ rIsX K D a [.ref a, .ref C] H Q :=
  ⟨rfl, fun dd e => by cases e; exact ⟨fs, h⟩, _, _, b, rfl, .own C, hk, q⟩
/-- a caught exception goes into the clause -/
theorem z_as {cls c : Value} {i : Nat} {ts : Addr → Value → Option Addr → TS} {Wout : WX} {D : Ends} {d : Option Addr} (hk : PySem.W.exmOne K cls c = some true)
    (q : ∀ a, H a = none → ts a cls d { nx := fun σ' H' => D.nx (σ'.set i none) H', rt := D.rt, bk := fun σ' H' => D.bk (σ'.set i none) H', ct := fun σ' H' => D.ct (σ'.set i none) H' } (σ.set i (some (.ref a))) H) : wAs K c i ts Wout D cls d σ H :=
  ⟨true, hk, fun _ => q, fun z => nomatch z⟩
/-! sizes -/
theorem div_bd {n g b : Int} (hg : 1 ≤ g) (h1 : -b ≤ n) (h2 : n ≤ b) (hb : 0 ≤ b) : -b ≤ n / g ∧ n / g ≤ b := by
  have e1 := Int.mul_ediv_self_le (x := n) (k := g) (by omega)
  have e2 := Int.lt_mul_ediv_self_add (x := n) (k := g) (by omega)
  constructor
  · by_cases q : n / g ≥ 0
    · omega
    · have : n ≤ n / g := by
        by_cases p : 0 ≤ n
        · have := Int.ediv_nonneg p (show 0 ≤ g by omega)
          omega
        · have k : n / g * g ≤ n / g * 1 := Int.mul_le_mul_of_nonpos_left (by omega) hg
          have k2 : (n / g + 1) * g > n := by
            have : (n / g + 1) * g = n / g * g + 1 * g := Int.add_mul ..
            have c : g * (n / g) = n / g * g := Int.mul_comm ..
            omega
          by_cases r : n ≤ n / g
          · exact r
          · have k3 : (n / g + 1) * g ≤ (n / g + 1) * 1 := Int.mul_le_mul_of_nonpos_left (by omega) hg
            omega
      omega
  · by_cases p : 0 ≤ n
    · have := Int.ediv_le_self g p
      omega
    · have := Int.ediv_neg_of_neg_of_pos (a := n) (b := g) (by omega) (by omega)
      omega
theorem rt_size {n d b c : Int} (hd : 0 < d) (h1 : -b ≤ n) (h2 : n ≤ b) (hb : 0 ≤ b) (h3 : d ≤ c) : -b ≤ rt n d ∧ rt n d ≤ b ∧ rb n d ≤ c := by
  obtain ⟨e1, e2⟩ := rt_pos (n := n) hd
  have g0 : 0 < Int.gcd n d := Int.gcd_pos_of_ne_zero_right n (by omega)
  obtain ⟨k1, k2⟩ := div_bd (n := n) (g := (Int.gcd n d : Nat)) (by omega) h1 h2 hb
  rw [e1, e2]
  have := Int.ediv_le_self (a := d) (Int.gcd n d : Nat) (by omega)
  omega
end
/-- indexing, the fragment under its own name -/
theorem ix_seqK {X : Cx} {K : Frag} (h : X.K = K) : IxR X (rIx K) := by subst h; exact ix_seq
/-- the law's promise -/
def fs_law (K : Frag) : F1 := fun a H Q _ => ∃ (p : Addr) (ns : List Int), a = .ref p ∧ SqL K H p (ns.map V.int) ∧ ns.length ≤ 63 ∧ ∀ H', Q (.bl true) H'
theorem law_quiet {P : Program} {w : World} {K : Frag} {mg : Str → Option Value} {base : Heap} {j k : Nat} {f : Addr} {fd : FuncData} {ps : List Str} (F : FnOk P w K mg base (L2N.CX P w) j f fd ps (sp1 (fs_law K))) (h : j ≤ k) : FnOk P w K mg base L2.CX0 k f fd ps (sp1 (fs_law K)) :=
  (fn_quiet F fun _ _ _ _ h => h).mono h
theorem cut63 {ns : List Int} (h : ns.length ≤ 63) : cutV (ns.map V.int) none (some 63) = ns.map V.int := by
  have hl : (ns.map V.int).length ≤ 63 := by rw [List.length_map]; exact h
  generalize ns.map V.int = xs at *
  have e : HT.sIx xs.length xs.length (some 63) = xs.length := by
    have q := HT.sIx_nat xs.length xs.length 63
    rw [show ((63 : Nat) : Int) = 63 from rfl] at q
    rw [q]
    omega
  unfold cutV
  rw [e, HT.sIx_none, Nat.sub_zero, List.drop_zero, List.take_length]
section
variable {σ : L2.St} {H : Hp} {Q : VK} {te : TE}
theorem z_sl63 {K : Frag} {p : Addr} {ns : List Int} {i : Nat} (hs : σ[i]? = some (some (.ref p))) (h : SqL K H p (ns.map V.int)) (hl : ns.length ≤ 63) (q : ∀ r H', Same H H' → SqL K H' r (ns.map V.int) → Q (.ref r) H') : tSl (rSlL K) (tVar i) tNoPart (tPart (tC (.int 63))) σ H Q := by
  have e := cut63 hl
  refine ⟨_, hs, 63, rfl, p, _, rfl, h, fun r hr => ?_⟩
  rw [e]
  exact q r _ (Same.new hr) (SqL.of upd_same)
end
end Z

set_option maxHeartbeats 4000000
/-! the simplest fraction between two: plain mathematics -/
namespace S1
/-- ceil, as the program has it -/
def ceil (a b : Int) : Int := -(-a / b)
theorem ceil_le {a b x : Int} (hb : 0 < b) : ceil a b ≤ x ↔ a ≤ x * b := by
  unfold ceil
  constructor
  · intro h
    have h1 : -x ≤ -a / b := by omega
    have h2 := (Int.le_ediv_iff_mul_le hb).mp h1
    rw [Int.neg_mul] at h2
    omega
  · intro h
    have h1 : -x ≤ -a / b := (Int.le_ediv_iff_mul_le hb).mpr (by rw [Int.neg_mul]; omega)
    omega
theorem le_floor {a b x : Int} (hb : 0 < b) : x ≤ a / b ↔ x * b ≤ a := Int.le_ediv_iff_mul_le hb
theorem self_ceil {a b : Int} (hb : 0 < b) : a ≤ ceil a b * b := (ceil_le hb).mp (Int.le_refl _)
theorem floor_self {a b : Int} (hb : 0 < b) : a / b * b ≤ a := (le_floor hb).mp (Int.le_refl _)
/-- p / q lies between -/
def Btw (lt lb ht hb p q : Int) : Prop := lt * q ≤ p * lb ∧ p * hb ≤ ht * q
/-- both parts least -/
structure Min2 (lt lb ht hb t b : Int) : Prop where
  t1 : 1 ≤ t
  b1 : 1 ≤ b
  btw : Btw lt lb ht hb t b
  least : ∀ x y : Int, 1 ≤ x → 1 ≤ y → Btw lt lb ht hb x y → t ≤ x ∧ b ≤ y
theorem min2_whole {lt lb ht hb : Int} (h1 : 1 ≤ lt) (h2 : 1 ≤ lb) (h : ceil lt lb * hb ≤ ht) : Min2 lt lb ht hb (ceil lt lb) 1 := by
  have hb0 : 0 < lb := by omega
  have s := self_ceil (a := lt) hb0
  have c1 : 1 ≤ ceil lt lb := by
    by_cases q : ceil lt lb ≤ 0
    · have := (ceil_le (a := lt) (x := 0) hb0).mp q
      omega
    · omega
  refine ⟨c1, by omega, ⟨by omega, by omega⟩, fun x y hx hy ⟨b1, b2⟩ => ⟨?_, hy⟩⟩
  refine (ceil_le hb0).mpr ?_
  have : lt * 1 ≤ lt * y := Int.mul_le_mul_of_nonneg_left hy (by omega)
  omega
/-- where no whole number lies between: the common floor -/
structure Step (lt lb ht hb f : Int) : Prop where
  f0 : 0 ≤ f
  lr : 1 ≤ lt - f * lb
  lr2 : lt - f * lb < lb
  hr : 1 ≤ ht - f * hb
  hr2 : ht - f * hb < hb
theorem step_of {lt lb ht hb : Int} (h1 : 1 ≤ lt) (h2 : 1 ≤ lb) (h3 : 1 ≤ hb) (ho : lt * hb ≤ ht * lb) (hc : ht < ceil lt lb * hb) : Step lt lb ht hb (lt / lb) := by
  have hb0 : 0 < lb := by omega
  have hh0 : 0 < hb := by omega
  have f1 := floor_self (a := lt) hb0
  have f2 : lt < (lt / lb + 1) * lb := by
    by_cases q : (lt / lb + 1) * lb ≤ lt
    · have := (le_floor hb0).mpr q
      omega
    · omega
  have f0 : 0 ≤ lt / lb := Int.ediv_nonneg (by omega) (by omega)
  -- the floor is less than the ceil
  have fc : lt / lb * lb ≠ lt := by
    intro e
    have c : ceil lt lb ≤ lt / lb := (ceil_le hb0).mpr (by omega)
    have k1 : ceil lt lb * hb ≤ lt / lb * hb := Int.mul_le_mul_of_nonneg_right c (by omega)
    have k2 : ht < lt / lb * hb := by omega
    have k3 : ht * lb < lt / lb * hb * lb := Int.mul_lt_mul_of_pos_right k2 hb0
    have k4 : lt / lb * hb * lb = (lt / lb * lb) * hb := by grind
    rw [k4, e] at k3
    omega
  have c1 : ceil lt lb ≤ lt / lb + 1 := (ceil_le hb0).mpr (by omega)
  have h5 : ht < (lt / lb + 1) * hb := by
    have := Int.mul_le_mul_of_nonneg_right c1 (show 0 ≤ hb by omega)
    omega
  have h6 : lt / lb * hb < ht := by
    by_cases q : ht ≤ lt / lb * hb
    · have k3 : ht * lb ≤ lt / lb * hb * lb := Int.mul_le_mul_of_nonneg_right q (by omega)
      have k4 : lt / lb * hb * lb = (lt / lb * lb) * hb := by grind
      have k5 : (lt / lb * lb) * hb < lt * hb := Int.mul_lt_mul_of_pos_right (by omega) hh0
      omega
    · omega
  exact ⟨f0, by omega, by grind, by omega, by grind⟩
theorem min2_step {lt lb ht hb f t b : Int} (h2 : 1 ≤ lb) (h3 : 1 ≤ hb) (S : Step lt lb ht hb f) (m : Min2 hb (ht - f * hb) lb (lt - f * lb) t b) : Min2 lt lb ht hb (f * t + b) t := by
  obtain ⟨t1, b1, ⟨m1, m2⟩, ml⟩ := m
  obtain ⟨f0, lr, lr2, hr, hr2⟩ := S
  have ft : 0 ≤ f * t := Int.mul_nonneg f0 (by omega)
  refine ⟨by omega, t1, ⟨by grind, by grind⟩, fun x y hx hy ⟨b1', b2'⟩ => ?_⟩
  have z : 1 ≤ x - f * y := by
    by_cases q : x - f * y ≤ 0
    · have k1 : x * lb ≤ f * y * lb := Int.mul_le_mul_of_nonneg_right (by omega) (by omega)
      have k2 : (lt - f * lb) * y ≤ 0 := by grind
      have k3 : 1 * 1 ≤ (lt - f * lb) * y := Int.mul_le_mul lr hy (by omega) (by omega)
      omega
    · omega
  obtain ⟨l1, l2⟩ := ml y (x - f * y) hy z ⟨by grind, by grind⟩
  refine ⟨?_, l1⟩
  have := Int.mul_le_mul_of_nonneg_left l1 f0
  omega
theorem min2_gcd {lt lb ht hb t b : Int} (h2 : 1 ≤ lb) (h3 : 1 ≤ hb) (m : Min2 lt lb ht hb t b) : Int.gcd t b = 1 := by
  obtain ⟨t1, b1, ⟨m1, m2⟩, ml⟩ := m
  have g0 : 0 < Int.gcd t b := Int.gcd_pos_of_ne_zero_left b (by omega)
  obtain ⟨x, ex⟩ := Int.gcd_dvd_left (a := t) (b := b)
  obtain ⟨y, ey⟩ := Int.gcd_dvd_right (a := t) (b := b)
  generalize hg : (Int.gcd t b : Int) = g at *
  have gp : 0 < g := by omega
  have x1 : 1 ≤ x := by
    by_cases q : x ≤ 0
    · have := Int.mul_le_mul_of_nonneg_left q (show 0 ≤ g by omega)
      omega
    · omega
  have y1 : 1 ≤ y := by
    by_cases q : y ≤ 0
    · have := Int.mul_le_mul_of_nonneg_left q (show 0 ≤ g by omega)
      omega
    · omega
  have k1 : lt * y ≤ x * lb := by
    have : g * (lt * y) ≤ g * (x * lb) := by
      have a1 : g * (lt * y) = lt * b := by rw [ey, Int.mul_left_comm]
      have a2 : g * (x * lb) = t * lb := by rw [ex, Int.mul_assoc]
      rw [a1, a2]
      exact m1
    exact Int.le_of_mul_le_mul_left this gp
  have k2 : x * hb ≤ ht * y := by
    have : g * (x * hb) ≤ g * (ht * y) := by
      have a1 : g * (ht * y) = ht * b := by rw [ey, Int.mul_left_comm]
      have a2 : g * (x * hb) = t * hb := by rw [ex, Int.mul_assoc]
      rw [a1, a2]
      exact m2
    exact Int.le_of_mul_le_mul_left this gp
  have := (ml x y x1 y1 ⟨k1, k2⟩).1
  have g1 : g ≤ 1 := by
    by_cases q : 2 ≤ g
    · have := Int.mul_le_mul_of_nonneg_right q (show 0 ≤ x by omega)
      omega
    · omega
  omega
/-- what is asked: the least bottom, and of these the top nearest to zero -/
structure Best (lt lb ht hb t b : Int) : Prop where
  b1 : 1 ≤ b
  g : Int.gcd t b = 1
  btw : Btw lt lb ht hb t b
  lesser : ∀ x y : Int, 1 ≤ y → y < b → ¬ Btw lt lb ht hb x y
  near1 : 0 < t → ¬ Btw lt lb ht hb (t - 1) b
  near2 : t < 0 → ¬ Btw lt lb ht hb (t + 1) b
theorem best_of_min2 {lt lb ht hb t b : Int} (h1 : 1 ≤ lt) (h2 : 1 ≤ lb) (h3 : 1 ≤ hb) (m : Min2 lt lb ht hb t b) : Best lt lb ht hb t b := by
  have pos : ∀ x y : Int, 1 ≤ y → Btw lt lb ht hb x y → 1 ≤ x := fun x y hy ⟨c1, _⟩ => by
    by_cases q : x ≤ 0
    · have k1 : x * lb ≤ 0 * lb := Int.mul_le_mul_of_nonneg_right q (by omega)
      have k3 : 1 * 1 ≤ lt * y := Int.mul_le_mul h1 hy (by omega) (by omega)
      omega
    · omega
  refine ⟨m.b1, min2_gcd h2 h3 m, m.btw, fun x y hy hl c => ?_, fun _ c => ?_, fun z => ?_⟩
  · have := (m.least x y (pos x y hy c) hy c).2
    omega
  · have := (m.least _ _ (pos _ _ m.b1 c) m.b1 c).1
    omega
  · have := m.t1
    omega
theorem btw_neg {lt lb ht hb p q : Int} : Btw (-ht) hb (-lt) lb (-p) q ↔ Btw lt lb ht hb p q := by
  unfold Btw
  rw [Int.neg_mul, Int.neg_mul, Int.neg_mul, Int.neg_mul]
  constructor
  · rintro ⟨h1, h2⟩
    exact ⟨by omega, by omega⟩
  · rintro ⟨h1, h2⟩
    exact ⟨by omega, by omega⟩
theorem best_neg {lt lb ht hb t b : Int} (m : Best lt lb ht hb t b) : Best (-ht) hb (-lt) lb (-t) b := by
  refine ⟨m.b1, by rw [Int.neg_gcd]; exact m.g, btw_neg.mpr m.btw, fun x y hy hl c => ?_, fun z c => ?_, fun z c => ?_⟩
  · refine m.lesser (-x) y hy hl (btw_neg.mp ?_)
    rw [Int.neg_neg]
    exact c
  · refine m.near2 (by omega) (btw_neg.mp ?_)
    rw [show -(t + 1) = -t - 1 by omega]
    exact c
  · refine m.near1 (by omega) (btw_neg.mp ?_)
    rw [show -(t - 1) = -t + 1 by omega]
    exact c
theorem best_neg' {lt lb ht hb t b : Int} (m : Best (-ht) hb (-lt) lb t b) : Best lt lb ht hb (-t) b := by
  have := best_neg m
  rw [Int.neg_neg, Int.neg_neg] at this
  exact this
theorem best_zero {lt lb ht hb : Int} (h1 : lt ≤ 0) (h2 : 0 ≤ ht) : Best lt lb ht hb 0 1 := by
  refine ⟨by omega, by decide, ⟨by omega, by omega⟩, fun x y h1 h2 => by omega, fun z => by omega, fun z => by omega⟩
theorem btw_mid {lt lb ht hb p q r b : Int} (h2 : 1 ≤ lb) (h3 : 1 ≤ hb) (c1 : Btw lt lb ht hb p b) (c2 : Btw lt lb ht hb q b) (h : p ≤ r) (h' : r ≤ q) : Btw lt lb ht hb r b := by
  obtain ⟨a1, _⟩ := c1
  obtain ⟨_, a4⟩ := c2
  exact ⟨Int.le_trans a1 (Int.mul_le_mul_of_nonneg_right h (by omega)), Int.le_trans (Int.mul_le_mul_of_nonneg_right h' (by omega)) a4⟩
/-- there is but one -/
theorem best_lt {lt lb ht hb t b t' : Int} (h2 : 1 ≤ lb) (h3 : 1 ≤ hb) (m : Best lt lb ht hb t b) (m' : Best lt lb ht hb t' b) (h : t < t') : False := by
  by_cases p : 0 < t'
  · by_cases z : t ≤ t' - 1
    · exact m'.near1 p (btw_mid h2 h3 m.btw m'.btw z (by omega))
    · omega
  · exact m.near2 (by omega) (btw_mid h2 h3 m.btw m'.btw (show t ≤ t + 1 by omega) (by omega))
theorem best_one {lt lb ht hb t b t' b' : Int} (h2 : 1 ≤ lb) (h3 : 1 ≤ hb) (m : Best lt lb ht hb t b) (m' : Best lt lb ht hb t' b') : t = t' ∧ b = b' := by
  have e : b = b' := by
    rcases Int.lt_trichotomy b b' with h | h | h
    · exact (m'.lesser t b m.b1 h m.btw).elim
    · exact h
    · exact (m.lesser t' b' m'.b1 h m'.btw).elim
  subst e
  rcases Int.lt_trichotomy t t' with h | h | h
  · exact (best_lt h2 h3 m m' h).elim
  · exact ⟨h, rfl⟩
  · exact (best_lt h2 h3 m' m h).elim
/-- only the values of the ends matter -/
theorem btw_scale {lt lb ht hb lt' lb' ht' hb' p q : Int} (k1 : 1 ≤ lb) (k2 : 1 ≤ hb) (k1' : 1 ≤ lb') (k2' : 1 ≤ hb') (e1 : lt * lb' = lt' * lb) (e2 : ht * hb' = ht' * hb) (c : Btw lt lb ht hb p q) : Btw lt' lb' ht' hb' p q := by
  obtain ⟨a, b⟩ := c
  constructor
  · have : lb * (lt' * q) ≤ lb * (p * lb') := by
      have h1 : lb' * (lt * q) ≤ lb' * (p * lb) := Int.mul_le_mul_of_nonneg_left a (by omega)
      grind
    exact Int.le_of_mul_le_mul_left this (by omega)
  · have : hb * (p * hb') ≤ hb * (ht' * q) := by
      have h1 : hb' * (p * hb) ≤ hb' * (ht * q) := Int.mul_le_mul_of_nonneg_left b (by omega)
      grind
    exact Int.le_of_mul_le_mul_left this (by omega)
theorem best_scale {lt lb ht hb lt' lb' ht' hb' t b : Int} (k1 : 1 ≤ lb) (k2 : 1 ≤ hb) (k1' : 1 ≤ lb') (k2' : 1 ≤ hb') (e1 : lt * lb' = lt' * lb) (e2 : ht * hb' = ht' * hb) (m : Best lt lb ht hb t b) : Best lt' lb' ht' hb' t b := by
  have s : ∀ {p q : Int}, Btw lt' lb' ht' hb' p q → Btw lt lb ht hb p q := fun c => btw_scale k1' k2' k1 k2 e1.symm e2.symm c
  exact ⟨m.b1, m.g, btw_scale k1 k2 k1' k2' e1 e2 m.btw, fun x y h1 h2 c => m.lesser x y h1 h2 (s c), fun z c => m.near1 z (s c), fun z c => m.near2 z (s c)⟩
theorem Int.dvd_of_dvd_mul_right_of_gcd_one' {a b c : Int} (h : a ∣ b * c) (g : Int.gcd a b = 1) : a ∣ c := by
  have h1 : a.natAbs ∣ b.natAbs * c.natAbs := by
    rw [← Int.natAbs_mul]
    exact Int.natAbs_dvd_natAbs.mpr h
  have h2 : Nat.Coprime a.natAbs b.natAbs := g
  exact Int.natAbs_dvd_natAbs.mp (Nat.Coprime.dvd_of_dvd_mul_left h2 h1)
theorem gcd_step {u v : Int} (hu : 0 ≤ u) (hv : 0 ≤ v) : Int.gcd v (u % v) = Int.gcd u v := by
  obtain ⟨a, rfl⟩ := Int.eq_ofNat_of_zero_le hu
  obtain ⟨b, rfl⟩ := Int.eq_ofNat_of_zero_le hv
  rw [← Int.natCast_emod]
  show Nat.gcd _ _ = Nat.gcd _ _
  simp only [Int.natAbs_natCast]
  rw [Nat.gcd_comm a b, Nat.gcd_rec b a, Nat.gcd_comm]
theorem Int.dvd_gcd_of {g : Nat} {a b : Int} (h1 : (g : Int) ∣ a) (h2 : (g : Int) ∣ b) : g ∣ Int.gcd a b := Nat.dvd_gcd (by
  have := Int.natAbs_dvd_natAbs.mpr h1
  simpa using this) (by
  have := Int.natAbs_dvd_natAbs.mpr h2
  simpa using this)
theorem Int.dvd_self_sub_emod' {n b : Int} : b ∣ n - n % b := ⟨n / b, by have := Int.emod_add_mul_ediv n b; omega⟩
theorem Int.gcd_emod' (n b : Int) : Int.gcd n b = Int.gcd b (n % b) := by
  have h1 : Int.gcd n b ∣ Int.gcd b (n % b) := by
    refine Int.dvd_gcd_of (Int.gcd_dvd_right ..) ?_
    rw [Int.emod_def]
    exact Int.dvd_sub (Int.gcd_dvd_left ..) (Int.dvd_mul_of_dvd_left (Int.gcd_dvd_right ..))
  have h2 : Int.gcd b (n % b) ∣ Int.gcd n b := by
    refine Int.dvd_gcd_of ?_ (Int.gcd_dvd_left ..)
    have e := Int.emod_add_mul_ediv n b
    have d := Int.dvd_add (Int.gcd_dvd_right (a := b) (b := n % b)) (Int.dvd_mul_of_dvd_left (c := n / b) (Int.gcd_dvd_left (a := b) (b := n % b)))
    rw [e] at d
    exact d
  exact Nat.dvd_antisymm h1 h2
/-- one fraction alone -/
theorem best_point {t b : Int} (hb : 1 ≤ b) (g : Int.gcd t b = 1) : Best t b t b t b := by
  have eq : ∀ {p q : Int}, Btw t b t b p q → t * q = p * b := fun ⟨h1, h2⟩ => by omega
  refine ⟨hb, g, ⟨by omega, by omega⟩, fun x y h1 h2 c => ?_, fun z c => ?_, fun z c => ?_⟩
  · have e := eq c
    have d : b ∣ t * y := ⟨x, by rw [e, Int.mul_comm]⟩
    have d2 : b ∣ y := Int.dvd_of_dvd_mul_right_of_gcd_one' d (by rw [Int.gcd_comm]; exact g)
    have := Int.le_of_dvd (by omega) d2
    omega
  · have e := eq c
    rw [Int.sub_mul] at e
    omega
  · have e := eq c
    rw [Int.add_mul] at e
    omega
/-- no lesser bottom: as the law's loop tries it -/
theorem none_row {lt lb ht hb b q : Int} (h2 : 1 ≤ lb) (h3 : 1 ≤ hb) (nl : ∀ x y : Int, 1 ≤ y → y < b → ¬ Btw lt lb ht hb x y) (h4 : 1 ≤ q) (h5 : q < b) : ¬ -(-lt * q / lb) ≤ ht * q / hb := by
  intro h
  have e : -lt * q = -(lt * q) := Int.neg_mul ..
  rw [e] at h
  have c1 : lt * q ≤ -(-(lt * q) / lb) * lb := self_ceil (a := lt * q) (by omega)
  have c2 : ht * q / hb * hb ≤ ht * q := floor_self (by omega)
  refine nl (-(-(lt * q) / lb)) q h4 h5 ⟨c1, ?_⟩
  have := Int.mul_le_mul_of_nonneg_right h (show 0 ≤ hb by omega)
  omega
/-- the neighbours -/
theorem neigh {lt lb ht hb t b u o : Int} (h2 : 1 ≤ lb) (h3 : 1 ≤ hb) (m : Best lt lb ht hb t b) (u1 : 1 ≤ u) (u2 : u < b) (e : t * u - o * b = 1) : o * lb < lt * u ∧ ht * (b - u) < (t - o) * hb := by
  obtain ⟨a1, a2⟩ := m.btw
  have b1 := m.b1
  constructor
  · by_cases q : o * lb < lt * u
    · exact q
    · refine (m.lesser o u u1 u2 ⟨by omega, ?_⟩).elim
      -- o / u is below t / b, which is not above high
      have k1 : (o * b) * hb ≤ (t * u) * hb := Int.mul_le_mul_of_nonneg_right (by omega) (by omega)
      have k2 : u * (t * hb) ≤ u * (ht * b) := Int.mul_le_mul_of_nonneg_left a2 (by omega)
      have k3 : b * (o * hb) ≤ b * (ht * u) := by grind
      exact Int.le_of_mul_le_mul_left k3 (by omega)
  · by_cases q : ht * (b - u) < (t - o) * hb
    · exact q
    · refine (m.lesser (t - o) (b - u) (by omega) (by omega) ⟨?_, by omega⟩).elim
      have k1 : (t * (b - u)) * lb ≤ ((t - o) * b) * lb := Int.mul_le_mul_of_nonneg_right (by
        have : t * (b - u) = t * b - t * u := Int.mul_sub ..
        have : (t - o) * b = t * b - o * b := Int.sub_mul ..
        omega) (by omega)
      have k2 : (b - u) * (lt * b) ≤ (b - u) * (t * lb) := Int.mul_le_mul_of_nonneg_left a1 (by omega)
      have k3 : b * (lt * (b - u)) ≤ b * ((t - o) * lb) := by grind
      exact Int.le_of_mul_le_mul_left k3 (by omega)
/-- the inverse's loop -/
structure Iv (n base one two left right : Int) : Prop where
  o1 : 1 ≤ one
  t1 : one ≤ two
  t2 : two ≤ base
  g : Int.gcd one two = 1
  c1 : base ∣ left * n - one
  c2 : base ∣ right * n - two
  s : left.natAbs * two.toNat + right.natAbs * one.toNat ≤ base.toNat
theorem iv_start {n base : Int} (hb : 1 < base) (g : Int.gcd n base = 1) : Iv n base (n % base) base 1 0 := by
  have h0 := Int.emod_nonneg n (show base ≠ 0 by omega)
  have h1 := Int.emod_lt_of_pos n (show 0 < base by omega)
  have hg : Int.gcd (n % base) base = 1 := by
    rw [Int.gcd_comm, ← Int.gcd_emod' n base]
    exact g
  have o1 : 1 ≤ n % base := by
    by_cases q : n % base = 0
    · rw [q] at hg
      simp [Int.gcd] at hg
      omega
    · omega
  refine ⟨o1, by omega, by omega, hg, ?_, ⟨-1, by omega⟩, ?_⟩
  · rw [Int.one_mul]
    exact Int.dvd_self_sub_emod'
  · simp
theorem iv_step {n base one two left right : Int} (v : Iv n base one two left right) (h : 1 < one) : Iv n base (two - two / one * one) one (right - two / one * left) left ∧ two - two / one * one < one := by
  obtain ⟨o1, t1, t2, g, c1, c2, s⟩ := v
  have e : two - two / one * one = two % one := by
    have := Int.emod_add_mul_ediv two one
    have := Int.mul_comm one (two / one)
    omega
  have r0 := Int.emod_nonneg two (show one ≠ 0 by omega)
  have r1 := Int.emod_lt_of_pos two (show 0 < one by omega)
  have hg : Int.gcd (two % one) one = 1 := by
    rw [Int.gcd_comm, gcd_step (by omega) (by omega), Int.gcd_comm]
    exact g
  have hr : 1 ≤ two % one := by
    by_cases q : two % one = 0
    · rw [q] at hg
      simp [Int.gcd] at hg
      omega
    · omega
  have p0 : 0 ≤ two / one := Int.ediv_nonneg (by omega) (by omega)
  refine ⟨⟨by omega, by omega, by omega, by rw [e]; exact hg, ?_, c1, ?_⟩, by omega⟩
  · have : (right - two / one * left) * n - (two - two / one * one) = (right * n - two) - two / one * (left * n - one) := by
      generalize two / one = f
      grind
    rw [this]
    exact Int.dvd_sub c2 (Int.dvd_mul_of_dvd_right c1)
  · have k1 : (right - two / one * left).natAbs ≤ right.natAbs + (two / one).toNat * left.natAbs := by
      have a1 : (two / one * left).natAbs = (two / one).toNat * left.natAbs := by
        rw [Int.natAbs_mul]
        congr 1
        omega
      rw [← a1]
      exact Int.natAbs_sub_le ..
    have k2 : (right - two / one * left).natAbs * one.toNat ≤ (right.natAbs + (two / one).toNat * left.natAbs) * one.toNat := Nat.mul_le_mul_right _ k1
    have k3 : two.toNat = (two / one).toNat * one.toNat + (two - two / one * one).toNat := by
      have a1 : ((two / one).toNat * one.toNat : Nat) = (two / one * one).toNat := by
        have : (((two / one).toNat * one.toNat : Nat) : Int) = two / one * one := by
          rw [Int.natCast_mul, Int.toNat_of_nonneg p0, Int.toNat_of_nonneg (by omega)]
        omega
      have a2 : 0 ≤ two / one * one := Int.mul_nonneg p0 (by omega)
      omega
    generalize (two / one).toNat = f at *
    generalize (two - two / one * one).toNat = r at *
    generalize (right - two / one * left).natAbs = z at *
    rw [k3] at s
    have : left.natAbs * (f * one.toNat + r) + right.natAbs * one.toNat = (right.natAbs + f * left.natAbs) * one.toNat + left.natAbs * r := by grind
    omega
theorem iv_end {n base one two left right : Int} (hb : 1 < base) (v : Iv n base one two left right) (h : ¬ 1 < one) : 1 ≤ left % base ∧ left % base < base ∧ base ∣ n * (left % base) - 1 := by
  have o : one = 1 := by have := v.o1; omega
  have c := v.c1
  rw [o] at c
  have h0 := Int.emod_nonneg left (show base ≠ 0 by omega)
  have h1 := Int.emod_lt_of_pos left (show 0 < base by omega)
  have d : base ∣ n * (left % base) - 1 := by
    have e := Int.emod_add_mul_ediv left base
    have : n * (left % base) - 1 = (left * n - 1) - base * (n * (left / base)) := by
      generalize left / base = f at *
      generalize left % base = r at *
      subst e
      grind
    rw [this]
    exact Int.dvd_sub c (Int.dvd_mul_right ..)
  refine ⟨?_, h1, d⟩
  by_cases q : left % base = 0
  · rw [q, Int.mul_zero] at d
    obtain ⟨k, hk⟩ := d
    have : base ∣ 1 := ⟨-k, by rw [Int.mul_neg]; omega⟩
    have := Int.le_of_dvd (by omega) this
    omega
  · omega
theorem iv_sizes {n base one two left right : Int} (v : Iv n base one two left right) : left.natAbs ≤ base.toNat ∧ right.natAbs ≤ base.toNat := by
  have o1 := v.o1
  have t1 := v.t1
  have s := v.s
  have k1 : left.natAbs * 1 ≤ left.natAbs * two.toNat := Nat.mul_le_mul_left _ (by omega)
  have k2 : right.natAbs * 1 ≤ right.natAbs * one.toNat := Nat.mul_le_mul_left _ (by omega)
  omega
/-! ### the loop: convergents -/
structure Lp (LT LB HT HB B lt lb ht hb ot ob tp bt : Int) : Prop where
  l1 : 1 ≤ lt
  l2 : 1 ≤ lb
  l3 : 1 ≤ ht
  l4 : 1 ≤ hb
  ord : lt * hb ≤ ht * lb
  n1 : 0 ≤ ot
  n2 : 0 ≤ ob
  n3 : 0 ≤ tp
  n4 : 0 ≤ bt
  s1 : lt * tp + lb * ot ≤ B
  s2 : lt * bt + lb * ob ≤ B
  s3 : ht * tp + hb * ot ≤ B
  s4 : ht * bt + hb * ob ≤ B
  c1 : lt ≤ B
  c2 : lb ≤ B
  c3 : ht ≤ B
  c4 : hb ≤ B
  tm : ∀ t b : Int, Min2 lt lb ht hb t b → Min2 LT LB HT HB (t * tp + b * ot) (t * bt + b * ob)
theorem lp_start {lt lb ht hb B : Int} (h1 : 1 ≤ lt) (h2 : 1 ≤ lb) (h3 : 1 ≤ ht) (h4 : 1 ≤ hb) (ho : lt * hb ≤ ht * lb) (c1 : lt ≤ B) (c2 : lb ≤ B) (c3 : ht ≤ B) (c4 : hb ≤ B) : Lp lt lb ht hb B lt lb ht hb 0 1 1 0 :=
  ⟨h1, h2, h3, h4, ho, by omega, by omega, by omega, by omega, by omega, by omega, by omega, by omega, c1, c2, c3, c4, fun t b m => by
    rw [show t * 1 + b * 0 = t by omega, show t * 0 + b * 1 = b by omega]
    exact m⟩
theorem lp_step {LT LB HT HB B lt lb ht hb ot ob tp bt : Int} (L : Lp LT LB HT HB B lt lb ht hb ot ob tp bt) (hc : ht < ceil lt lb * hb) :
    Lp LT LB HT HB B hb (ht - lt / lb * hb) lb (lt - lt / lb * lb) tp bt (lt / lb * tp + ot) (lt / lb * bt + ob) ∧ (lt - lt / lb * lb).toNat + (ht - lt / lb * hb).toNat < lb.toNat + hb.toNat := by
  have S := step_of L.l1 L.l2 L.l4 L.ord hc
  obtain ⟨f0, lr, lr2, hr, hr2⟩ := id S
  have p1 := Int.mul_nonneg f0 L.n3
  have p2 := Int.mul_nonneg f0 L.n4
  have g1 := L.s1
  have g2 := L.s2
  have g3 := L.s3
  have g4 := L.s4
  have od := L.ord
  have e1 := L.n1
  have e2 := L.n2
  have e3 := L.c1
  have e4 := L.c2
  have e5 := L.c3
  have e6 := L.c4
  refine ⟨⟨L.l4, hr, L.l2, lr, ?_, L.n3, L.n4, by omega, by omega, ?_, ?_, ?_, ?_, e6, by omega, e4, by omega, fun t b m => ?_⟩, by omega⟩
  · generalize lt / lb = f at *
    grind
  · generalize lt / lb = f at *
    grind
  · generalize lt / lb = f at *
    grind
  · generalize lt / lb = f at *
    grind
  · generalize lt / lb = f at *
    grind
  · have m2 := L.tm _ _ (min2_step L.l2 L.l4 S m)
    have q1 : (lt / lb * t + b) * tp + t * ot = t * (lt / lb * tp + ot) + b * tp := by
      generalize lt / lb = f
      grind
    have q2 : (lt / lb * t + b) * bt + t * ob = t * (lt / lb * bt + ob) + b * bt := by
      generalize lt / lb = f
      grind
    rw [q1, q2] at m2
    exact m2
theorem lp_end {LT LB HT HB B lt lb ht hb ot ob tp bt : Int} (L : Lp LT LB HT HB B lt lb ht hb ot ob tp bt) (hc : ceil lt lb * hb ≤ ht) : Min2 LT LB HT HB (ceil lt lb * tp + ot) (ceil lt lb * bt + ob) := by
  have m := L.tm _ _ (min2_whole L.l1 L.l2 hc)
  rw [show ∀ z : Int, 1 * z = z from fun z => Int.one_mul z, show ∀ z : Int, 1 * z = z from fun z => Int.one_mul z] at m
  exact m
theorem lp_sizes {LT LB HT HB B lt lb ht hb ot ob tp bt : Int} (L : Lp LT LB HT HB B lt lb ht hb ot ob tp bt) : tp ≤ B ∧ bt ≤ B ∧ ot ≤ B ∧ ob ≤ B := by
  have a1 := Int.mul_le_mul_of_nonneg_right L.l1 L.n3
  have a2 := Int.mul_le_mul_of_nonneg_right L.l1 L.n4
  have a3 := Int.mul_le_mul_of_nonneg_right L.l2 L.n1
  have a4 := Int.mul_le_mul_of_nonneg_right L.l2 L.n2
  have b1 := Int.mul_nonneg (show 0 ≤ lt from by have := L.l1; omega) L.n3
  have b2 := Int.mul_nonneg (show 0 ≤ lt from by have := L.l1; omega) L.n4
  have b3 := Int.mul_nonneg (show 0 ≤ lb from by have := L.l2; omega) L.n1
  have b4 := Int.mul_nonneg (show 0 ≤ lb from by have := L.l2; omega) L.n2
  have g1 := L.s1
  have g2 := L.s2
  exact ⟨by omega, by omega, by omega, by omega⟩
end S1
namespace S1
theorem neigh_size {t b u o : Int} (b1 : 1 ≤ b) (u1 : 0 ≤ u) (u2 : u < b) (e : t * u - o * b = 1) : -(t.natAbs : Int) - 1 ≤ o ∧ o ≤ t.natAbs + 1 := by
  by_cases q : 0 ≤ t
  · have k1 : t * u ≤ t * b := Int.mul_le_mul_of_nonneg_left (by omega) q
    have k2 : 0 ≤ t * u := Int.mul_nonneg q u1
    have k3 : o < t := Int.lt_of_mul_lt_mul_right (a := b) (by omega) (by omega)
    have k4 : -1 ≤ o := Int.le_of_mul_le_mul_right (a := b) (by omega) (by omega)
    omega
  · have k1 : t * b ≤ t * u := Int.mul_le_mul_of_nonpos_left (by omega) (by omega)
    have k2 : t * u ≤ 0 := Int.mul_nonpos_of_nonpos_of_nonneg (by omega) u1
    have k3 : o < 0 := Int.lt_of_mul_lt_mul_right (a := b) (by omega) (by omega)
    have k4 : t - 1 ≤ o := Int.le_of_mul_le_mul_right (a := b) (by
      have : (t - 1) * b = t * b - 1 * b := Int.sub_mul ..
      omega) (by omega)
    omega
theorem best_size {lt lb ht hb t b B : Int} (h2 : 1 ≤ lb) (h3 : 1 ≤ hb) (ho : lt * hb ≤ ht * lb) (c1 : -B ≤ lt) (c2 : ht ≤ B) (c3 : lb ≤ B) (B0 : 0 ≤ B) (m : Best lt lb ht hb t b) : b ≤ lb ∧ -(B * B) ≤ t ∧ t ≤ B * B := by
  have b1 := m.b1
  obtain ⟨a1, a2⟩ := m.btw
  have k0 : b ≤ lb := by
    by_cases q : lb < b
    · exact (m.lesser lt lb h2 q ⟨Int.le_refl _, ho⟩).elim
    · omega
  refine ⟨k0, ?_, ?_⟩
  · by_cases q : 0 ≤ t
    · have := Int.mul_nonneg B0 B0
      omega
    · have e1 : t * lb ≤ t * 1 := Int.mul_le_mul_of_nonpos_left (by omega) h2
      have e2 : -B * b ≤ lt * b := Int.mul_le_mul_of_nonneg_right c1 (by omega)
      have e3 : B * b ≤ B * B := Int.mul_le_mul_of_nonneg_left (by omega) B0
      have e4 : -B * b = -(B * b) := Int.neg_mul ..
      omega
  · by_cases q : t ≤ 0
    · have := Int.mul_nonneg B0 B0
      omega
    · have e1 : t * 1 ≤ t * hb := Int.mul_le_mul_of_nonneg_left h3 (by omega)
      have e2 : ht * b ≤ B * b := Int.mul_le_mul_of_nonneg_right c2 (by omega)
      have e3 : B * b ≤ B * B := Int.mul_le_mul_of_nonneg_left (by omega) B0
      omega
/-- a product of two within bounds -/
theorem mul_bd {x y a b : Int} (h1 : -a ≤ x) (h2 : x ≤ a) (h3 : 0 ≤ y) (h4 : y ≤ b) (a0 : 0 ≤ a) : -(a * b) ≤ x * y ∧ x * y ≤ a * b := by
  have e1 : -a * y ≤ x * y := Int.mul_le_mul_of_nonneg_right h1 h3
  have e2 : x * y ≤ a * y := Int.mul_le_mul_of_nonneg_right h2 h3
  have e3 : a * y ≤ a * b := Int.mul_le_mul_of_nonneg_left h4 a0
  have e4 : -a * y = -(a * y) := Int.neg_mul ..
  omega
/-- crossed, also in lowest terms -/
theorem red_lt {a b x y c d z w : Int} (b1 : 0 < b) (y1 : 0 < y) (d1 : 0 < d) (w1 : 0 < w) (e : x * b = a * y) (f : z * d = c * w) (h : a * d < c * b) : x * w < z * y := by
  have k : (b * d) * (x * w) < (b * d) * (z * y) := by
    have e1 : (b * d) * (x * w) = (y * w) * (a * d) := by grind
    have e2 : (b * d) * (z * y) = (y * w) * (c * b) := by grind
    rw [e1, e2]
    exact Int.mul_lt_mul_of_pos_left h (Int.mul_pos y1 w1)
  exact Int.lt_of_mul_lt_mul_left k (Int.le_of_lt (Int.mul_pos b1 d1))
theorem red_le {a b x y c d z w : Int} (b1 : 0 < b) (y1 : 0 < y) (d1 : 0 < d) (w1 : 0 < w) (e : x * b = a * y) (f : z * d = c * w) (h : a * d ≤ c * b) : x * w ≤ z * y := by
  have k : (b * d) * (x * w) ≤ (b * d) * (z * y) := by
    have e1 : (b * d) * (x * w) = (y * w) * (a * d) := by grind
    have e2 : (b * d) * (z * y) = (y * w) * (c * b) := by grind
    rw [e1, e2]
    exact Int.mul_le_mul_of_nonneg_left h (Int.le_of_lt (Int.mul_pos y1 w1))
  exact Int.le_of_mul_le_mul_left k (Int.mul_pos b1 d1)
end S1

set_option maxHeartbeats 0
namespace T
open PySem PySem.Spec PyProof.Rows L2 Z
/-! ### the text by places -/
def topS (i : Nat) : Stmt := PySem.Challenge.pw_belownought_k01_simplest_between.main.body.getD i (.Pass ⟨0, 0, 0, 0⟩)
abbrev s_RatioD_initD : Stmt := inClass (topS 8) 0
theorem sc_RatioD_initD : FnScope (["self", "top", "bottom", "common"] : List Str) (["self", "top", "bottom"] : List Str) (defScope s_RatioD_initD) := ⟨rfl, rfl, rfl, by decide +kernel, rfl, by decide +kernel, by decide +kernel⟩
abbrev s_law_between : Stmt := topS 23
theorem sc_law_between : FnScope (["p", "q", "ends", "low", "high"] : List Str) (["p", "q", "ends"] : List Str) (defScope s_law_between) := ⟨rfl, rfl, rfl, by decide +kernel, rfl, by decide +kernel, by decide +kernel⟩
abbrev s_law_mod : Stmt := topS 16
theorem sc_law_mod : FnScope (["number", "size"] : List Str) (["number", "size"] : List Str) (defScope s_law_mod) := ⟨rfl, rfl, rfl, by decide +kernel, rfl, by decide +kernel, by decide +kernel⟩
abbrev s_law_common : Stmt := topS 18
theorem sc_law_common : FnScope (["one", "two", "rest"] : List Str) (["one", "two"] : List Str) (defScope s_law_common) := ⟨rfl, rfl, rfl, by decide +kernel, rfl, by decide +kernel, by decide +kernel⟩
abbrev s_law_inverse : Stmt := topS 25
theorem sc_law_inverse : FnScope (["number", "base", "one", "two", "left", "right", "part", "rest", "back"] : List Str) (["number", "base"] : List Str) (defScope s_law_inverse) := ⟨rfl, rfl, rfl, by decide +kernel, rfl, by decide +kernel, by decide +kernel⟩
abbrev s_law_neighbours : Stmt := topS 26
theorem sc_law_neighbours : FnScope (["top", "bottom", "ends", "low", "high", "under", "over"] : List Str) (["top", "bottom", "ends"] : List Str) (defScope s_law_neighbours) := ⟨rfl, rfl, rfl, by decide +kernel, rfl, by decide +kernel, by decide +kernel⟩
abbrev s_law_none_lesser : Stmt := topS 24
theorem sc_law_none_lesser : FnScope (["bottom", "ends", "low", "high", "q", "least"] : List Str) (["bottom", "ends"] : List Str) (defScope s_law_none_lesser) := ⟨rfl, rfl, rfl, by decide +kernel, rfl, by decide +kernel, by decide +kernel⟩
abbrev s_law_whole : Stmt := topS 21
theorem sc_law_whole : FnScope (["actual", "due"] : List Str) (["actual", "due"] : List Str) (defScope s_law_whole) := ⟨rfl, rfl, rfl, by decide +kernel, rfl, by decide +kernel, by decide +kernel⟩
abbrev s_law_best : Stmt := topS 27
theorem sc_law_best : FnScope (["found", "ends", "top", "bottom", "step"] : List Str) (["found", "ends"] : List Str) (defScope s_law_best) := ⟨rfl, rfl, rfl, by decide +kernel, rfl, by decide +kernel, by decide +kernel⟩
abbrev s_law_cell : Stmt := topS 15
theorem sc_law_cell : FnScope (["script", "k"] : List Str) (["script", "k"] : List Str) (defScope s_law_cell) := ⟨rfl, rfl, rfl, by decide +kernel, rfl, by decide +kernel, by decide +kernel⟩
abbrev s_law_is : Stmt := topS 22
theorem sc_law_is : FnScope (["actual", "due", "part"] : List Str) (["actual", "due"] : List Str) (defScope s_law_is) := ⟨rfl, rfl, rfl, by decide +kernel, rfl, by decide +kernel, by decide +kernel⟩
abbrev s_CrossedD_initD : Stmt := inClass (topS 6) 0
theorem sc_CrossedD_initD : FnScope (["self", "low", "high"] : List Str) (["self", "low", "high"] : List Str) (defScope s_CrossedD_initD) := ⟨rfl, rfl, rfl, by decide +kernel, rfl, by decide +kernel, by decide +kernel⟩
abbrev s_RatioD_negD : Stmt := inClass (topS 8) 5
theorem sc_RatioD_negD : FnScope (["self"] : List Str) (["self"] : List Str) (defScope s_RatioD_negD) := ⟨rfl, rfl, rfl, by decide +kernel, rfl, by decide +kernel, by decide +kernel⟩
abbrev s_Ratio_compare : Stmt := inClass (topS 8) 10
theorem sc_Ratio_compare : FnScope (["self", "other", "left", "right"] : List Str) (["self", "other"] : List Str) (defScope s_Ratio_compare) := ⟨rfl, rfl, rfl, by decide +kernel, rfl, by decide +kernel, by decide +kernel⟩
abbrev s_Ratio_sign : Stmt := inClass (topS 8) 11
theorem sc_Ratio_sign : FnScope (["self"] : List Str) (["self"] : List Str) (defScope s_Ratio_sign) := ⟨rfl, rfl, rfl, by decide +kernel, rfl, by decide +kernel, by decide +kernel⟩
abbrev s_simplest_above : Stmt := topS 13
theorem sc_simplest_above : FnScope (["low", "high", "low_top", "low_bottom", "high_top", "high_bottom", "old_top", "old_bottom", "top", "bottom", "term", "low_rest", "high_rest"] : List Str) (["low", "high"] : List Str) (defScope s_simplest_above) := ⟨rfl, rfl, rfl, by decide +kernel, rfl, by decide +kernel, by decide +kernel⟩
abbrev s_simplest : Stmt := topS 12
theorem sc_simplest : FnScope (["low", "high"] : List Str) (["low", "high"] : List Str) (defScope s_simplest) := ⟨rfl, rfl, rfl, by decide +kernel, rfl, by decide +kernel, by decide +kernel⟩
abbrev s_law_crossed : Stmt := topS 28
theorem sc_law_crossed : FnScope (["a", "b", "ends", "e"] : List Str) (["a", "b", "ends"] : List Str) (defScope s_law_crossed) := ⟨rfl, rfl, rfl, by decide +kernel, rfl, by decide +kernel, by decide +kernel⟩
abbrev s_law_signed : Stmt := topS 17
theorem sc_law_signed : FnScope (["number", "bound", "place"] : List Str) (["number", "bound"] : List Str) (defScope s_law_signed) := ⟨rfl, rfl, rfl, by decide +kernel, rfl, by decide +kernel, by decide +kernel⟩
abbrev s_law_fraction : Stmt := topS 19
theorem sc_law_fraction : FnScope (["script", "at", "size", "first", "second", "k", "shift", "top", "bound"] : List Str) (["script", "at", "size"] : List Str) (defScope s_law_fraction) := ⟨rfl, rfl, rfl, by decide +kernel, rfl, by decide +kernel, by decide +kernel⟩
abbrev s_law_ends : Stmt := topS 20
theorem sc_law_ends : FnScope (["script", "size", "kind", "one", "two", "most", "n", "m", "p", "q", "floor"] : List Str) (["script", "size"] : List Str) (defScope s_law_ends) := ⟨rfl, rfl, rfl, by decide +kernel, rfl, by decide +kernel, by decide +kernel⟩
abbrev s_law : Stmt := topS 29
theorem sc_law : FnScope (["script", "size", "ends", "low", "high", "a", "b", "found", "best", "back", "more"] : List Str) (["script"] : List Str) (defScope s_law) := ⟨rfl, rfl, rfl, by decide +kernel, rfl, by decide +kernel, by decide +kernel⟩
/-! ### facts -/
def df_RatioD_initD : He.DefD := ⟨("Ratio", some "__init__"), "__init__", "Ratio.__init__", defArgs s_RatioD_initD, defBody s_RatioD_initD, defScope s_RatioD_initD, [.int 1], []⟩
def df_law_between : He.DefD := ⟨("_law_between", none), "_law_between", "_law_between", defArgs s_law_between, defBody s_law_between, defScope s_law_between, [], []⟩
def df_law_mod : He.DefD := ⟨("_law_mod", none), "_law_mod", "_law_mod", defArgs s_law_mod, defBody s_law_mod, defScope s_law_mod, [], []⟩
def df_law_common : He.DefD := ⟨("_law_common", none), "_law_common", "_law_common", defArgs s_law_common, defBody s_law_common, defScope s_law_common, [], []⟩
def df_law_inverse : He.DefD := ⟨("_law_inverse", none), "_law_inverse", "_law_inverse", defArgs s_law_inverse, defBody s_law_inverse, defScope s_law_inverse, [], []⟩
def df_law_neighbours : He.DefD := ⟨("_law_neighbours", none), "_law_neighbours", "_law_neighbours", defArgs s_law_neighbours, defBody s_law_neighbours, defScope s_law_neighbours, [], []⟩
def df_law_none_lesser : He.DefD := ⟨("_law_none_lesser", none), "_law_none_lesser", "_law_none_lesser", defArgs s_law_none_lesser, defBody s_law_none_lesser, defScope s_law_none_lesser, [], []⟩
def df_law_whole : He.DefD := ⟨("_law_whole", none), "_law_whole", "_law_whole", defArgs s_law_whole, defBody s_law_whole, defScope s_law_whole, [], []⟩
def df_law_best : He.DefD := ⟨("_law_best", none), "_law_best", "_law_best", defArgs s_law_best, defBody s_law_best, defScope s_law_best, [], []⟩
def df_law_cell : He.DefD := ⟨("_law_cell", none), "_law_cell", "_law_cell", defArgs s_law_cell, defBody s_law_cell, defScope s_law_cell, [], []⟩
def df_law_is : He.DefD := ⟨("_law_is", none), "_law_is", "_law_is", defArgs s_law_is, defBody s_law_is, defScope s_law_is, [], []⟩
def df_CrossedD_initD : He.DefD := ⟨("Crossed", some "__init__"), "__init__", "Crossed.__init__", defArgs s_CrossedD_initD, defBody s_CrossedD_initD, defScope s_CrossedD_initD, [], []⟩
def df_RatioD_negD : He.DefD := ⟨("Ratio", some "__neg__"), "__neg__", "Ratio.__neg__", defArgs s_RatioD_negD, defBody s_RatioD_negD, defScope s_RatioD_negD, [], []⟩
def df_Ratio_compare : He.DefD := ⟨("Ratio", some "compare"), "compare", "Ratio.compare", defArgs s_Ratio_compare, defBody s_Ratio_compare, defScope s_Ratio_compare, [], []⟩
def df_Ratio_sign : He.DefD := ⟨("Ratio", some "sign"), "sign", "Ratio.sign", defArgs s_Ratio_sign, defBody s_Ratio_sign, defScope s_Ratio_sign, [], []⟩
def df_simplest_above : He.DefD := ⟨("simplest_above", none), "simplest_above", "simplest_above", defArgs s_simplest_above, defBody s_simplest_above, defScope s_simplest_above, [], []⟩
def df_simplest : He.DefD := ⟨("simplest", none), "simplest", "simplest", defArgs s_simplest, defBody s_simplest, defScope s_simplest, [], []⟩
def df_law_crossed : He.DefD := ⟨("_law_crossed", none), "_law_crossed", "_law_crossed", defArgs s_law_crossed, defBody s_law_crossed, defScope s_law_crossed, [], []⟩
def df_law_signed : He.DefD := ⟨("_law_signed", none), "_law_signed", "_law_signed", defArgs s_law_signed, defBody s_law_signed, defScope s_law_signed, [], []⟩
def df_law_fraction : He.DefD := ⟨("_law_fraction", none), "_law_fraction", "_law_fraction", defArgs s_law_fraction, defBody s_law_fraction, defScope s_law_fraction, [], []⟩
def df_law_ends : He.DefD := ⟨("_law_ends", none), "_law_ends", "_law_ends", defArgs s_law_ends, defBody s_law_ends, defScope s_law_ends, [], []⟩
def df_law : He.DefD := ⟨("law", none), "law", "law", defArgs s_law, defBody s_law, defScope s_law, [], []⟩
def fn : List He.DefD := [df_RatioD_initD, df_law_between, df_law_mod, df_law_common, df_law_inverse, df_law_neighbours, df_law_none_lesser, df_law_whole, df_law_best, df_law_cell, df_law_is, df_CrossedD_initD, df_RatioD_negD, df_Ratio_compare, df_Ratio_sign, df_simplest_above, df_simplest, df_law_crossed, df_law_signed, df_law_fraction, df_law_ends, df_law]
def fb : List Chk := [cGlo "Crossed", cGlo "NoughtError", cGlo "Ratio", cGlo "ZeroBottom", cGlo "_law_best", cGlo "_law_between", cGlo "_law_cell", cGlo "_law_common", cGlo "_law_crossed", cGlo "_law_ends", cGlo "_law_fraction", cGlo "_law_inverse", cGlo "_law_is", cGlo "_law_mod", cGlo "_law_neighbours", cGlo "_law_none_lesser", cGlo "_law_signed", cGlo "_law_whole", cGlo "law", cGlo "simplest", cGlo "simplest_above", cFree "abs", cFree "bool", cVal "gcd" "math.gcd", cFree "int", cFree "isinstance", cFree "len", cFree "range", cCls "Ratio", cIns "Ratio", cMk "Ratio", cSelf "Ratio", cNo "Ratio" "bottom", cNo "Ratio" "top", cMeth "Ratio" "__neg__", cMeth "Ratio" "compare", cMeth "Ratio" "sign", cOex "Crossed", cNo "Crossed" "low", cNo "Crossed" "high", cExc0 "ZeroBottom", cExm "Crossed" "Crossed" true, cExm "ZeroBottom" "Crossed" false, cExcC "Crossed", cExcC "ZeroBottom", cKit "Ratio" "Ratio" true, cKit "Crossed" "ZeroBottom" false, cKit "Crossed" "NoughtError" true]
abbrev Lw (K : Frag) (mg : Str → Option Value) : Prop := Lw0 fb fn K mg
section
variable {K : Frag} {mg : Str → Option Value}
theorem Lw.g_Crossed (L : Lw K mg) : mg "Crossed" = some (.ref (He.ga K "Crossed")) := by
  obtain ⟨h, X, G⟩ := L.at_
  exact He.glo_ok X G (L.c.fact 0 rfl)
theorem Lw.g_NoughtError (L : Lw K mg) : mg "NoughtError" = some (.ref (He.ga K "NoughtError")) := by
  obtain ⟨h, X, G⟩ := L.at_
  exact He.glo_ok X G (L.c.fact 1 rfl)
theorem Lw.g_Ratio (L : Lw K mg) : mg "Ratio" = some (.ref (He.ga K "Ratio")) := by
  obtain ⟨h, X, G⟩ := L.at_
  exact He.glo_ok X G (L.c.fact 2 rfl)
theorem Lw.g_ZeroBottom (L : Lw K mg) : mg "ZeroBottom" = some (.ref (He.ga K "ZeroBottom")) := by
  obtain ⟨h, X, G⟩ := L.at_
  exact He.glo_ok X G (L.c.fact 3 rfl)
theorem Lw.g_law_best (L : Lw K mg) : mg "_law_best" = some (.ref (He.ga K "_law_best")) := by
  obtain ⟨h, X, G⟩ := L.at_
  exact He.glo_ok X G (L.c.fact 4 rfl)
theorem Lw.g_law_between (L : Lw K mg) : mg "_law_between" = some (.ref (He.ga K "_law_between")) := by
  obtain ⟨h, X, G⟩ := L.at_
  exact He.glo_ok X G (L.c.fact 5 rfl)
theorem Lw.g_law_cell (L : Lw K mg) : mg "_law_cell" = some (.ref (He.ga K "_law_cell")) := by
  obtain ⟨h, X, G⟩ := L.at_
  exact He.glo_ok X G (L.c.fact 6 rfl)
theorem Lw.g_law_common (L : Lw K mg) : mg "_law_common" = some (.ref (He.ga K "_law_common")) := by
  obtain ⟨h, X, G⟩ := L.at_
  exact He.glo_ok X G (L.c.fact 7 rfl)
theorem Lw.g_law_crossed (L : Lw K mg) : mg "_law_crossed" = some (.ref (He.ga K "_law_crossed")) := by
  obtain ⟨h, X, G⟩ := L.at_
  exact He.glo_ok X G (L.c.fact 8 rfl)
theorem Lw.g_law_ends (L : Lw K mg) : mg "_law_ends" = some (.ref (He.ga K "_law_ends")) := by
  obtain ⟨h, X, G⟩ := L.at_
  exact He.glo_ok X G (L.c.fact 9 rfl)
theorem Lw.g_law_fraction (L : Lw K mg) : mg "_law_fraction" = some (.ref (He.ga K "_law_fraction")) := by
  obtain ⟨h, X, G⟩ := L.at_
  exact He.glo_ok X G (L.c.fact 10 rfl)
theorem Lw.g_law_inverse (L : Lw K mg) : mg "_law_inverse" = some (.ref (He.ga K "_law_inverse")) := by
  obtain ⟨h, X, G⟩ := L.at_
  exact He.glo_ok X G (L.c.fact 11 rfl)
theorem Lw.g_law_is (L : Lw K mg) : mg "_law_is" = some (.ref (He.ga K "_law_is")) := by
  obtain ⟨h, X, G⟩ := L.at_
  exact He.glo_ok X G (L.c.fact 12 rfl)
theorem Lw.g_law_mod (L : Lw K mg) : mg "_law_mod" = some (.ref (He.ga K "_law_mod")) := by
  obtain ⟨h, X, G⟩ := L.at_
  exact He.glo_ok X G (L.c.fact 13 rfl)
theorem Lw.g_law_neighbours (L : Lw K mg) : mg "_law_neighbours" = some (.ref (He.ga K "_law_neighbours")) := by
  obtain ⟨h, X, G⟩ := L.at_
  exact He.glo_ok X G (L.c.fact 14 rfl)
theorem Lw.g_law_none_lesser (L : Lw K mg) : mg "_law_none_lesser" = some (.ref (He.ga K "_law_none_lesser")) := by
  obtain ⟨h, X, G⟩ := L.at_
  exact He.glo_ok X G (L.c.fact 15 rfl)
theorem Lw.g_law_signed (L : Lw K mg) : mg "_law_signed" = some (.ref (He.ga K "_law_signed")) := by
  obtain ⟨h, X, G⟩ := L.at_
  exact He.glo_ok X G (L.c.fact 16 rfl)
theorem Lw.g_law_whole (L : Lw K mg) : mg "_law_whole" = some (.ref (He.ga K "_law_whole")) := by
  obtain ⟨h, X, G⟩ := L.at_
  exact He.glo_ok X G (L.c.fact 17 rfl)
theorem Lw.g_law (L : Lw K mg) : mg "law" = some (.ref (He.ga K "law")) := by
  obtain ⟨h, X, G⟩ := L.at_
  exact He.glo_ok X G (L.c.fact 18 rfl)
theorem Lw.g_simplest (L : Lw K mg) : mg "simplest" = some (.ref (He.ga K "simplest")) := by
  obtain ⟨h, X, G⟩ := L.at_
  exact He.glo_ok X G (L.c.fact 19 rfl)
theorem Lw.g_simplest_above (L : Lw K mg) : mg "simplest_above" = some (.ref (He.ga K "simplest_above")) := by
  obtain ⟨h, X, G⟩ := L.at_
  exact He.glo_ok X G (L.c.fact 20 rfl)
theorem Lw.f_abs (L : Lw K mg) : mg "abs" = none := by
  obtain ⟨h, X, G⟩ := L.at_
  exact He.free_ok X G (L.c.fact 21 rfl)
theorem Lw.f_bool (L : Lw K mg) : mg "bool" = none := by
  obtain ⟨h, X, G⟩ := L.at_
  exact He.free_ok X G (L.c.fact 22 rfl)
theorem Lw.v_gcd (L : Lw K mg) : mg "gcd" = some (.builtin "math.gcd") := by
  obtain ⟨h, X, G⟩ := L.at_
  exact PySem.W.mg_of X G (He.eqO_ok (L.c.fact 23 rfl))
theorem Lw.f_int (L : Lw K mg) : mg "int" = none := by
  obtain ⟨h, X, G⟩ := L.at_
  exact He.free_ok X G (L.c.fact 24 rfl)
theorem Lw.f_isinstance (L : Lw K mg) : mg "isinstance" = none := by
  obtain ⟨h, X, G⟩ := L.at_
  exact He.free_ok X G (L.c.fact 25 rfl)
theorem Lw.f_len (L : Lw K mg) : mg "len" = none := by
  obtain ⟨h, X, G⟩ := L.at_
  exact He.free_ok X G (L.c.fact 26 rfl)
theorem Lw.f_range (L : Lw K mg) : mg "range" = none := by
  obtain ⟨h, X, G⟩ := L.at_
  exact He.free_ok X G (L.c.fact 27 rfl)
theorem Lw.cl_Ratio (L : Lw K mg) : Cls K (He.ga K "Ratio") := He.cls_ok (L.c.fact 28 rfl)
theorem Lw.in_Ratio (L : Lw K mg) : InsK K (He.ga K "Ratio") := insK_ok (L.c.fact 29 rfl)
theorem Lw.mk_Ratio (L : Lw K mg) : Mk K (He.ga K "Ratio") (He.ma K (He.ga K "Ratio") "__init__") := He.mkr_ok (L.c.fact 30 rfl)
theorem Lw.sf_Ratio (L : Lw K mg) : PySem.W.selfFirst K (He.ga K "Ratio") = true := (L.c.fact 31 rfl)
theorem Lw.na_Ratio_bottom (L : Lw K mg) : NoAttr K (He.ga K "Ratio") "bottom" := He.noat_ok (L.c.fact 32 rfl)
theorem Lw.na_Ratio_top (L : Lw K mg) : NoAttr K (He.ga K "Ratio") "top" := He.noat_ok (L.c.fact 33 rfl)
theorem Lw.me_RatioD_negD (L : Lw K mg) : Meth K (He.ga K "Ratio") "__neg__" (He.ma K (He.ga K "Ratio") "__neg__") := He.meth_ok (L.c.fact 34 rfl)
theorem Lw.me_Ratio_compare (L : Lw K mg) : Meth K (He.ga K "Ratio") "compare" (He.ma K (He.ga K "Ratio") "compare") := He.meth_ok (L.c.fact 35 rfl)
theorem Lw.me_Ratio_sign (L : Lw K mg) : Meth K (He.ga K "Ratio") "sign" (He.ma K (He.ga K "Ratio") "sign") := He.meth_ok (L.c.fact 36 rfl)
theorem Lw.ox_Crossed (L : Lw K mg) : OexC K (He.ga K "Crossed") ∧ PySem.W.findIn K (.ref (He.ga K "Crossed")) "__init__" = some (some (.ref (He.ma K (He.ga K "Crossed") "__init__"))) ∧ PySem.W.typeIn K (.ref (He.ma K (He.ga K "Crossed") "__init__")) = some (.type "function") := oex_ok (L.c.fact 37 rfl)
theorem Lw.na_Crossed_low (L : Lw K mg) : NoAttr K (He.ga K "Crossed") "low" := He.noat_ok (L.c.fact 38 rfl)
theorem Lw.na_Crossed_high (L : Lw K mg) : NoAttr K (He.ga K "Crossed") "high" := He.noat_ok (L.c.fact 39 rfl)
theorem Lw.e0_ZeroBottom (L : Lw K mg) : PySem.W.excIn K (He.ga K "ZeroBottom") He.veBase "ValueError.__new__" = true ∧ PySem.W.keepIn K (.ref (He.ga K "ZeroBottom")) = true ∧ PySem.W.subIn K (.ref (He.ga K "ZeroBottom")) (.type "BaseException") = some true ∧ PySem.W.typeIn K (.ref (He.ga K "ZeroBottom")) = some (.type "type") := He.exc_ok (L.c.fact 40 rfl)
theorem Lw.xi_ZeroBottom (L : Lw K mg) : PySem.W.excIn K (He.ga K "ZeroBottom") He.veBase "ValueError.__new__" = true := (L.e0_ZeroBottom).1
theorem Lw.kp_ZeroBottom (L : Lw K mg) : PySem.W.keepIn K (.ref (He.ga K "ZeroBottom")) = true := (L.e0_ZeroBottom).2.1
theorem Lw.xb_ZeroBottom (L : Lw K mg) : PySem.W.subIn K (.ref (He.ga K "ZeroBottom")) (.type "BaseException") = some true := (L.e0_ZeroBottom).2.2.1
theorem Lw.xt_ZeroBottom (L : Lw K mg) : PySem.W.typeIn K (.ref (He.ga K "ZeroBottom")) = some (.type "type") := (L.e0_ZeroBottom).2.2.2
theorem Lw.xm_Crossed_Crossed (L : Lw K mg) : PySem.W.exmOne K (.ref (He.ga K "Crossed")) (.ref (He.ga K "Crossed")) = some true := He.exm_ok (L.c.fact 41 rfl)
theorem Lw.xm_ZeroBottom_Crossed (L : Lw K mg) : PySem.W.exmOne K (.ref (He.ga K "ZeroBottom")) (.ref (He.ga K "Crossed")) = some false := He.exm_ok (L.c.fact 42 rfl)
theorem Lw.ec_Crossed (L : Lw K mg) : ExcC K (He.ga K "Crossed") := excC_ok (L.c.fact 43 rfl)
theorem Lw.xf_Crossed (L : Lw K mg) : XfC K (He.ga K "Crossed") := (L.ec_Crossed).xf
theorem Lw.ec_ZeroBottom (L : Lw K mg) : ExcC K (He.ga K "ZeroBottom") := excC_ok (L.c.fact 44 rfl)
theorem Lw.xf_ZeroBottom (L : Lw K mg) : XfC K (He.ga K "ZeroBottom") := (L.ec_ZeroBottom).xf
theorem Lw.kt_Ratio_Ratio (L : Lw K mg) : PySem.W.kitOne K (.ref (He.ga K "Ratio")) (.ref (He.ga K "Ratio")) = some true := of_decide_eq_true (L.c.fact 45 rfl)
theorem Lw.kt_Crossed_ZeroBottom (L : Lw K mg) : PySem.W.kitOne K (.ref (He.ga K "Crossed")) (.ref (He.ga K "ZeroBottom")) = some false := of_decide_eq_true (L.c.fact 46 rfl)
theorem Lw.kt_Crossed_NoughtError (L : Lw K mg) : PySem.W.kitOne K (.ref (He.ga K "Crossed")) (.ref (He.ga K "NoughtError")) = some true := of_decide_eq_true (L.c.fact 47 rfl)
theorem Lw.d_RatioD_initD (L : Lw K mg) : ∃ fd, FunD K "__init__" "Ratio.__init__" (defArgs s_RatioD_initD) (defBody s_RatioD_initD) (defScope s_RatioD_initD) (df_RatioD_initD.dvs K) (df_RatioD_initD.kws K) (He.fAd K ("Ratio", some "__init__")) fd := L.c.def_ 0 (d := df_RatioD_initD) rfl
theorem Lw.d_law_between (L : Lw K mg) : ∃ fd, FunD K "_law_between" "_law_between" (defArgs s_law_between) (defBody s_law_between) (defScope s_law_between) (df_law_between.dvs K) (df_law_between.kws K) (He.fAd K ("_law_between", none)) fd := L.c.def_ 1 (d := df_law_between) rfl
theorem Lw.d_law_mod (L : Lw K mg) : ∃ fd, FunD K "_law_mod" "_law_mod" (defArgs s_law_mod) (defBody s_law_mod) (defScope s_law_mod) (df_law_mod.dvs K) (df_law_mod.kws K) (He.fAd K ("_law_mod", none)) fd := L.c.def_ 2 (d := df_law_mod) rfl
theorem Lw.d_law_common (L : Lw K mg) : ∃ fd, FunD K "_law_common" "_law_common" (defArgs s_law_common) (defBody s_law_common) (defScope s_law_common) (df_law_common.dvs K) (df_law_common.kws K) (He.fAd K ("_law_common", none)) fd := L.c.def_ 3 (d := df_law_common) rfl
theorem Lw.d_law_inverse (L : Lw K mg) : ∃ fd, FunD K "_law_inverse" "_law_inverse" (defArgs s_law_inverse) (defBody s_law_inverse) (defScope s_law_inverse) (df_law_inverse.dvs K) (df_law_inverse.kws K) (He.fAd K ("_law_inverse", none)) fd := L.c.def_ 4 (d := df_law_inverse) rfl
theorem Lw.d_law_neighbours (L : Lw K mg) : ∃ fd, FunD K "_law_neighbours" "_law_neighbours" (defArgs s_law_neighbours) (defBody s_law_neighbours) (defScope s_law_neighbours) (df_law_neighbours.dvs K) (df_law_neighbours.kws K) (He.fAd K ("_law_neighbours", none)) fd := L.c.def_ 5 (d := df_law_neighbours) rfl
theorem Lw.d_law_none_lesser (L : Lw K mg) : ∃ fd, FunD K "_law_none_lesser" "_law_none_lesser" (defArgs s_law_none_lesser) (defBody s_law_none_lesser) (defScope s_law_none_lesser) (df_law_none_lesser.dvs K) (df_law_none_lesser.kws K) (He.fAd K ("_law_none_lesser", none)) fd := L.c.def_ 6 (d := df_law_none_lesser) rfl
theorem Lw.d_law_whole (L : Lw K mg) : ∃ fd, FunD K "_law_whole" "_law_whole" (defArgs s_law_whole) (defBody s_law_whole) (defScope s_law_whole) (df_law_whole.dvs K) (df_law_whole.kws K) (He.fAd K ("_law_whole", none)) fd := L.c.def_ 7 (d := df_law_whole) rfl
theorem Lw.d_law_best (L : Lw K mg) : ∃ fd, FunD K "_law_best" "_law_best" (defArgs s_law_best) (defBody s_law_best) (defScope s_law_best) (df_law_best.dvs K) (df_law_best.kws K) (He.fAd K ("_law_best", none)) fd := L.c.def_ 8 (d := df_law_best) rfl
theorem Lw.d_law_cell (L : Lw K mg) : ∃ fd, FunD K "_law_cell" "_law_cell" (defArgs s_law_cell) (defBody s_law_cell) (defScope s_law_cell) (df_law_cell.dvs K) (df_law_cell.kws K) (He.fAd K ("_law_cell", none)) fd := L.c.def_ 9 (d := df_law_cell) rfl
theorem Lw.d_law_is (L : Lw K mg) : ∃ fd, FunD K "_law_is" "_law_is" (defArgs s_law_is) (defBody s_law_is) (defScope s_law_is) (df_law_is.dvs K) (df_law_is.kws K) (He.fAd K ("_law_is", none)) fd := L.c.def_ 10 (d := df_law_is) rfl
theorem Lw.d_CrossedD_initD (L : Lw K mg) : ∃ fd, FunD K "__init__" "Crossed.__init__" (defArgs s_CrossedD_initD) (defBody s_CrossedD_initD) (defScope s_CrossedD_initD) (df_CrossedD_initD.dvs K) (df_CrossedD_initD.kws K) (He.fAd K ("Crossed", some "__init__")) fd := L.c.def_ 11 (d := df_CrossedD_initD) rfl
theorem Lw.d_RatioD_negD (L : Lw K mg) : ∃ fd, FunD K "__neg__" "Ratio.__neg__" (defArgs s_RatioD_negD) (defBody s_RatioD_negD) (defScope s_RatioD_negD) (df_RatioD_negD.dvs K) (df_RatioD_negD.kws K) (He.fAd K ("Ratio", some "__neg__")) fd := L.c.def_ 12 (d := df_RatioD_negD) rfl
theorem Lw.d_Ratio_compare (L : Lw K mg) : ∃ fd, FunD K "compare" "Ratio.compare" (defArgs s_Ratio_compare) (defBody s_Ratio_compare) (defScope s_Ratio_compare) (df_Ratio_compare.dvs K) (df_Ratio_compare.kws K) (He.fAd K ("Ratio", some "compare")) fd := L.c.def_ 13 (d := df_Ratio_compare) rfl
theorem Lw.d_Ratio_sign (L : Lw K mg) : ∃ fd, FunD K "sign" "Ratio.sign" (defArgs s_Ratio_sign) (defBody s_Ratio_sign) (defScope s_Ratio_sign) (df_Ratio_sign.dvs K) (df_Ratio_sign.kws K) (He.fAd K ("Ratio", some "sign")) fd := L.c.def_ 14 (d := df_Ratio_sign) rfl
theorem Lw.d_simplest_above (L : Lw K mg) : ∃ fd, FunD K "simplest_above" "simplest_above" (defArgs s_simplest_above) (defBody s_simplest_above) (defScope s_simplest_above) (df_simplest_above.dvs K) (df_simplest_above.kws K) (He.fAd K ("simplest_above", none)) fd := L.c.def_ 15 (d := df_simplest_above) rfl
theorem Lw.d_simplest (L : Lw K mg) : ∃ fd, FunD K "simplest" "simplest" (defArgs s_simplest) (defBody s_simplest) (defScope s_simplest) (df_simplest.dvs K) (df_simplest.kws K) (He.fAd K ("simplest", none)) fd := L.c.def_ 16 (d := df_simplest) rfl
theorem Lw.d_law_crossed (L : Lw K mg) : ∃ fd, FunD K "_law_crossed" "_law_crossed" (defArgs s_law_crossed) (defBody s_law_crossed) (defScope s_law_crossed) (df_law_crossed.dvs K) (df_law_crossed.kws K) (He.fAd K ("_law_crossed", none)) fd := L.c.def_ 17 (d := df_law_crossed) rfl
theorem Lw.d_law_signed (L : Lw K mg) : ∃ fd, FunD K "_law_signed" "_law_signed" (defArgs s_law_signed) (defBody s_law_signed) (defScope s_law_signed) (df_law_signed.dvs K) (df_law_signed.kws K) (He.fAd K ("_law_signed", none)) fd := L.c.def_ 18 (d := df_law_signed) rfl
theorem Lw.d_law_fraction (L : Lw K mg) : ∃ fd, FunD K "_law_fraction" "_law_fraction" (defArgs s_law_fraction) (defBody s_law_fraction) (defScope s_law_fraction) (df_law_fraction.dvs K) (df_law_fraction.kws K) (He.fAd K ("_law_fraction", none)) fd := L.c.def_ 19 (d := df_law_fraction) rfl
theorem Lw.d_law_ends (L : Lw K mg) : ∃ fd, FunD K "_law_ends" "_law_ends" (defArgs s_law_ends) (defBody s_law_ends) (defScope s_law_ends) (df_law_ends.dvs K) (df_law_ends.kws K) (He.fAd K ("_law_ends", none)) fd := L.c.def_ 20 (d := df_law_ends) rfl
theorem Lw.d_law (L : Lw K mg) : ∃ fd, FunD K "law" "law" (defArgs s_law) (defBody s_law) (defScope s_law) (df_law.dvs K) (df_law.kws K) (He.fAd K ("law", none)) fd := L.c.def_ 21 (d := df_law) rfl
end
end T

set_option maxHeartbeats 4000000
namespace T
open PySem PySem.Spec PyProof.Rows L2 Z
/-! the readings' steps, as one word: walk_at "z" (one step), "zz" (as far as it goes), "up" (a fact carried here) -/
local macro_rules | `(tactic| walk_at "up") => `(tactic| first
  | assumption
  | (refine' IsR.mono (by assumption) ?zup; case zup => walk_at "up")
  | (refine' IsE.mono (by assumption) ?zup; case zup => walk_at "up")
  | (refine' Same.at (by assumption) ?zup; case zup => walk_at "up")
  | (refine' SqL.of ?zup; case zup => walk_at "up")
  | (refine' L2.Same.seq (by assumption) ?zup; case zup => walk_at "up"))
local macro_rules | `(tactic| walk_at "z") => `(tactic| first
  | ((with_reducible refine' z_var ?zvh ?_); (case zvh => exact rfl))
  | with_reducible refine z_c ?_
  | with_reducible refine z_cons ?_
  | with_reducible refine z_nil ?_
  | with_reducible refine z_op ?_
  | with_reducible refine z_nx ?_
  | with_reducible refine z_seq ?_
  | with_reducible refine z_asg ?_
  | with_reducible refine z_asgG ?_
  | with_reducible refine z_call ?_
  | with_reducible refine z_sq0 ?_
  | with_reducible refine z_sq1 ?_
  | with_reducible refine z_ifS ?_
  | with_reducible refine z_test ?_
  | with_reducible refine z_tb ?_
  | with_reducible refine z_bl ?_
  | with_reducible refine z_blI ?_
  | with_reducible refine z_ret ?_
  | with_reducible refine z_rt ?_
  | with_reducible refine z_T ?_
  | with_reducible refine z_F ?_
  | with_reducible refine z_add ?_
  | with_reducible refine z_sub ?_
  | with_reducible refine z_neg ?_
  | with_reducible refine z_un ?_
  | with_reducible refine z_eqI ?_
  | with_reducible refine z_neI ?_
  | with_reducible refine z_lt ?_
  | with_reducible refine z_le ?_
  | with_reducible refine z_gt ?_
  | with_reducible refine z_ge ?_
  | with_reducible refine z_not ?_
  | with_reducible refine z_and ?_
  | with_reducible refine z_or ?_
  | with_reducible refine z_andV ?_
  | with_reducible refine z_orV ?_
  | with_reducible refine z_notV ?_
  | with_reducible refine z_if ?_
  | with_reducible refine z_cb ?_
  | with_reducible refine z_int1 ?_
  | with_reducible refine z_intb ?_
  | with_reducible refine z_abs ?_
  | with_reducible refine z_gcd ?_
  | with_reducible refine z_isi_ii ?_
  | with_reducible refine z_isi_ib ?_
  | with_reducible refine z_next ?_
  | with_reducible refine z_drop ?_
  | with_reducible refine z_par ?_
  | with_reducible refine z_par2 ?_
  | with_reducible refine z_tupN ?_
  | with_reducible refine z_lstN ?_
  | ((with_reducible refine' z_nt ?zl1 ?_); (case zl1 => exact Nat.le_of_ble_eq_true rfl); intro p H' hp hs he)
  | ((with_reducible refine' z_gtup ?zl1 ?zl2 ?_); (case zl1 => walk_at "up"); (case zl2 => exact rfl))
  | with_reducible refine z_bk ?_
  | with_reducible refine z_ct ?_
  | with_reducible refine z_break ?_
  | with_reducible refine z_cont ?_
  | with_reducible refine z_retN ?_
  | with_reducible refine z_nn ?_
  | with_reducible refine z_mk ?_
  | with_reducible refine z_gn ?_
  | with_reducible refine z_gcons ?_
  | with_reducible refine z_gnil ?_
  | with_reducible refine z_mt ?_
  | with_reducible refine z_mko ?_
  | with_reducible refine z_for2 ?_
  | with_reducible refine z_ownI ?_
  | ((with_reducible refine' z_lenL ?zl1 ?_); (case zl1 => walk_at "up"))
  | ((with_reducible refine' z_ixT ?zl1 ?zl2 ?_); (case zl1 => walk_at "up"); (case zl2 => exact rfl))
  | ((with_reducible refine' z_mulL ?zl1 ?zl2 ?_); (case zl1 => omega); (case zl2 => omega))
  | ((with_reducible refine' z_mulR ?zl1 ?zl2 ?_); (case zl1 => omega); (case zl2 => omega))
  | ((with_reducible refine' z_divS ?zl1 ?zl2 ?_); (case zl1 => omega); (case zl2 => omega))
  | ((with_reducible refine' z_mulW ?zl1 ?zl2 ?zl3 ?zl4 ?_); (case zl1 => omega); (case zl2 => omega); (case zl3 => omega); (case zl4 => omega))
  | ((with_reducible refine' z_divW ?zl1 ?zl2 ?_); (case zl1 => omega); (case zl2 => omega)))
local macro_rules | `(tactic| walk_at "zz") => `(tactic| repeat (walk_at "z"))

def fs_mod : F2 := fun a b H Q _ => ∃ n s : Int, a = .int n ∧ b = .int s ∧ 0 < s ∧ Q (.int (n % s)) H
section
variable {H : Hp} {Q : VK} {E : XK} {K : Frag}
theorem u_mod {n s : Int} (h : 0 < s) (q : ∀ r, 0 ≤ r → r < s → n % s = r → Q (.int r) H) : sp2 fs_mod [.int n, .int s] H Q E :=
  ⟨_, _, rfl, n, s, rfl, rfl, h, q _ (Int.emod_nonneg _ (by omega)) (Int.emod_lt_of_pos _ h) rfl⟩
end
local macro_rules | `(tactic| walk_at "z") => `(tactic| ((with_reducible refine' u_mod ?zl1 ?_); (case zl1 => omega); intro r hr0 hr1 hre))
section
variable {P : Program} {w : World} {K : Frag} {mg : Str → Option Value} {base : Heap}
theorem ok_law_mod (L : Lw K mg) {fd : FuncData} (F : FunD K "_law_mod" "_law_mod" (defArgs s_law_mod) (defBody s_law_mod) (defScope s_law_mod) (df_law_mod.dvs K) (df_law_mod.kws K) (He.fAd K ("_law_mod", none)) fd) : FnOk P w K mg base (L2N.CX P w) 1 (He.fAd K ("_law_mod", none)) fd (["number", "size"] : List Str) (sp2 fs_mod) := by
  refine FunD.ok F sc_law_mod len2 (fun cdv A outer s H vs Q E hr h => ?_)
  obtain ⟨a, b, rfl, h⟩ := h
  refine ⟨_, (pss_one (ps_ret (pe_op o_mod (pe_callTy o_int1 (by rfl) L.f_int (by decide +kernel) (pa_cons (pv 0) pa_nil)) (pv 1)))), ?_⟩
  obtain ⟨n, s, rfl, rfl, h0, q⟩ := h
  walk_at "zz"
  exact z_mod h0 q
theorem c_law_mod (L : Lw K mg) : Cal P w K mg base 1 "_law_mod" (sp2 fs_mod) [] := by
  obtain ⟨fd, F⟩ := L.d_law_mod
  exact ⟨⟨_, fd, ["number", "size"], [], ok_law_mod L F, L.g_law_mod, F.kp, F.bindsN (fun _ _ _ _ _ _ us hl => match us, hl with | [_, _], _ => rfl), .nil⟩⟩
theorem ch_law_mod (L : Lw K mg) : CalH P w K mg base 1 "_law_mod" (sp2 fs_mod) := by
  obtain ⟨fd, F⟩ := L.d_law_mod
  refine ⟨_, fd, ["number", "size"], okH F sc_law_mod len2 (fun cdv A outer s H vs Q E p hot1 hrH h => ?_), L.g_law_mod, F.kp, F.bindsN (fun _ _ _ _ _ _ us hl => match us, hl with | [_, _], _ => rfl)⟩
  obtain ⟨a, b, rfl, h⟩ := h
  refine ⟨_, (pss_one (ps_ret (pe_op o_mod (pe_callTy o_int1 (by rfl) L.f_int (by decide +kernel) (pa_cons (pv 0) pa_nil)) (pv 1)))), ?_⟩
  obtain ⟨n, s, rfl, rfl, h0, q⟩ := h
  walk_at "zz"
  exact z_mod h0 q
end
def fs_cell (K : Frag) : F2 := fun a b H Q _ => ∃ (p : Addr) (ns : List Int) (k : Int), a = .ref p ∧ b = .int k ∧ SqL K H p (ns.map V.int) ∧ 0 ≤ k ∧ Q (.int (ns.getD k.toNat 0)) H
theorem u_cell {H : Hp} {Q : VK} {E : XK} {K : Frag} {p : Addr} {ns : List Int} {k : Int} (hS : SqL K H p (ns.map V.int)) (h : 0 ≤ k) (q : ∀ c, Q (.int c) H) : sp2 (fs_cell K) [.ref p, .int k] H Q E := ⟨_, _, rfl, p, ns, k, rfl, rfl, hS, h, q _⟩
local macro_rules | `(tactic| walk_at "z") => `(tactic| ((with_reducible refine' u_cell ?zl1 ?zl2 ?_); (case zl1 => walk_at "up"); (case zl2 => omega); intro c))
section
variable {P : Program} {w : World} {K : Frag} {mg : Str → Option Value} {base : Heap}
theorem ok_law_cell (L : Lw K mg) {fd : FuncData} (F : FunD K "_law_cell" "_law_cell" (defArgs s_law_cell) (defBody s_law_cell) (defScope s_law_cell) (df_law_cell.dvs K) (df_law_cell.kws K) (He.fAd K ("_law_cell", none)) fd) : FnOk P w K mg base (L2N.CX P w) 1 (He.fAd K ("_law_cell", none)) fd (["script", "k"] : List Str) (sp2 (fs_cell K)) := by
  refine FunD.ok F sc_law_cell len2 (fun cdv A outer s H vs Q E hr h => ?_)
  obtain ⟨a, b, rfl, h⟩ := h
  refine ⟨_, (pss_cons (ps_if (pt_cmpR o_lt (pv 1) (pe_callB o_len (by rfl) L.f_len (by decide +kernel) (pa_cons (pv 0) pa_nil)) (nomark _)) (pss_one (ps_ret (pe_ix ix_seq (pv 0) (pv 1) (fun _ _ => rfl)))) pss_nil)
    (pss_one (ps_ret pe_int))), ?_⟩
  obtain ⟨p, ns, k, rfl, rfl, hS, h0, q⟩ := h
  walk_at "zz"
  refine z_d2 (fun c => ?_) (fun c => ?_)
  · walk_at "zz"
    exact z_ixL hS (cell_at h0 c) q
  · walk_at "zz"
    rw [cell_out h0 c] at q
    exact q
theorem c_law_cell (L : Lw K mg) : Cal P w K mg base 1 "_law_cell" (sp2 (fs_cell K)) [] := by
  obtain ⟨fd, F⟩ := L.d_law_cell
  exact ⟨⟨_, fd, ["script", "k"], [], ok_law_cell L F, L.g_law_cell, F.kp, F.bindsN (fun _ _ _ _ _ _ us hl => match us, hl with | [_, _], _ => rfl), .nil⟩⟩
end
/-- a number within a bound -/
def fs_signed : F2 := fun a b H Q _ => ∃ n s : Int, a = .int n ∧ b = .int s ∧ 0 ≤ s ∧ ∀ r, -s ≤ r → r ≤ s → Q (.int r) H
theorem u_signed {H : Hp} {Q : VK} {E : XK} {n s : Int} (h : 0 ≤ s) (q : ∀ r, -s ≤ r → r ≤ s → Q (.int r) H) : sp2 fs_signed [.int n, .int s] H Q E := ⟨_, _, rfl, n, s, rfl, rfl, h, q⟩
local macro_rules | `(tactic| walk_at "z") => `(tactic| ((with_reducible refine' u_signed ?zl1 ?_); (case zl1 => omega); intro r hr0 hr1))
section
variable {P : Program} {w : World} {K : Frag} {mg : Str → Option Value} {base : Heap}
theorem ok_law_signed (L : Lw K mg) {fd : FuncData} (F : FunD K "_law_signed" "_law_signed" (defArgs s_law_signed) (defBody s_law_signed) (defScope s_law_signed) (df_law_signed.dvs K) (df_law_signed.kws K) (He.fAd K ("_law_signed", none)) fd) : FnOk P w K mg base (L2N.CX P w) 2 (He.fAd K ("_law_signed", none)) fd (["number", "bound"] : List Str) (sp2 fs_signed) := by
  refine FunD.ok F sc_law_signed len2 (fun cdv A outer s H vs Q E hr h => ?_)
  obtain ⟨a, b, rfl, h⟩ := h
  refine ⟨_, (pss_cons (ps_set (i := 2) sc_law_signed.nd rfl (by first | exact Or.inl rfl | exact Or.inr rfl) (pe_c (c_law_mod (K := K) L) hr (by decide) (L2N.takes_of rfl rfl rfl rfl) (pa_cons (pv 0) (pa_cons (pe_op o_add (pe_op o_mul pe_int (pv 1)) pe_int) pa_nil))))
    (pss_cons (ps_if (pt_cmpR op_eq (pe_c (c_law_mod (K := K) L) hr (by decide) (L2N.takes_of rfl rfl rfl rfl) (pa_cons (pv 2) (pa_cons pe_int pa_nil))) pe_int (nomark _)) (pss_one (ps_ret (pe_op o_div (pe_op o_add (pv 2) pe_int) pe_int))) pss_nil)
    (pss_one (ps_ret (pe_un o_neg (pe_op o_div (pv 2) pe_int)))))), ?_⟩
  obtain ⟨n, s, rfl, rfl, h0, q⟩ := h
  walk_at "zz"
  refine z_d2 (fun c => ?_) (fun c => ?_)
  · walk_at "zz"
    exact q _ (by omega) (by omega)
  · walk_at "zz"
    exact q _ (by omega) (by omega)
theorem c_law_signed (L : Lw K mg) : Cal P w K mg base 2 "_law_signed" (sp2 fs_signed) [] := by
  obtain ⟨fd, F⟩ := L.d_law_signed
  exact ⟨⟨_, fd, ["number", "bound"], [], ok_law_signed L F, L.g_law_signed, F.kp, F.bindsN (fun _ _ _ _ _ _ us hl => match us, hl with | [_, _], _ => rfl), .nil⟩⟩
end
def fs_whole : F2 := fun a b H Q _ => ∃ i j : Int, a = .int i ∧ b = .int j ∧ Q (.bl (decide (i = j))) H
theorem u_whole {H : Hp} {Q : VK} {E : XK} {i j : Int} (q : Q (.bl (decide (i = j))) H) : sp2 fs_whole [.int i, .int j] H Q E := ⟨_, _, rfl, i, j, rfl, rfl, q⟩
local macro_rules | `(tactic| walk_at "z") => `(tactic| with_reducible refine u_whole ?_)
section
variable {P : Program} {w : World} {K : Frag} {mg : Str → Option Value} {base : Heap}
theorem ok_law_whole (L : Lw K mg) {fd : FuncData} (F : FunD K "_law_whole" "_law_whole" (defArgs s_law_whole) (defBody s_law_whole) (defScope s_law_whole) (df_law_whole.dvs K) (df_law_whole.kws K) (He.fAd K ("_law_whole", none)) fd) : FnOk P w K mg base (L2N.CX P w) 1 (He.fAd K ("_law_whole", none)) fd (["actual", "due"] : List Str) (sp2 fs_whole) := by
  refine FunD.ok F sc_law_whole len2 (fun cdv A outer s H vs Q E hr h => ?_)
  obtain ⟨a, b, rfl, h⟩ := h
  refine ⟨_, (pss_one (ps_ret (pe_and (pe_callB call_isi (by rfl) L.f_isinstance (by decide +kernel) (pa_cons (pv 0) (pa_cons (pe_ty "int" (by rfl) L.f_int (by decide +kernel)) pa_nil))) (pe_and (pe_not (pe_callB call_isi (by rfl) L.f_isinstance (by decide +kernel) (pa_cons (pv 0) (pa_cons (pe_ty "bool" (by rfl) L.f_bool (by decide +kernel)) pa_nil)))) (pe_one (pe_cmpR op_eq (pv 0) (pv 1) (nomark _))))))), ?_⟩
  obtain ⟨i, j, rfl, rfl, q⟩ := h
  walk_at "zz"
  exact q
theorem c_law_whole (L : Lw K mg) : Cal P w K mg base 1 "_law_whole" (sp2 fs_whole) [] := by
  obtain ⟨fd, F⟩ := L.d_law_whole
  exact ⟨⟨_, fd, ["actual", "due"], [], ok_law_whole L F, L.g_law_whole, F.kp, F.bindsN (fun _ _ _ _ _ _ us hl => match us, hl with | [_, _], _ => rfl), .nil⟩⟩
theorem ch_law_whole (L : Lw K mg) : CalH P w K mg base 1 "_law_whole" (sp2 fs_whole) := by
  obtain ⟨fd, F⟩ := L.d_law_whole
  refine ⟨_, fd, ["actual", "due"], okH F sc_law_whole len2 (fun cdv A outer s H vs Q E p hot1 hrH h => ?_), L.g_law_whole, F.kp, F.bindsN (fun _ _ _ _ _ _ us hl => match us, hl with | [_, _], _ => rfl)⟩
  obtain ⟨a, b, rfl, h⟩ := h
  refine ⟨_, (pss_one (ps_ret (pe_and (pe_callB call_isi (by rfl) L.f_isinstance (by decide +kernel) (pa_cons (pv 0) (pa_cons (pe_ty "int" (by rfl) L.f_int (by decide +kernel)) pa_nil))) (pe_and (pe_not (pe_callB call_isi (by rfl) L.f_isinstance (by decide +kernel) (pa_cons (pv 0) (pa_cons (pe_ty "bool" (by rfl) L.f_bool (by decide +kernel)) pa_nil)))) (pe_one (pe_cmpR op_eq (pv 0) (pv 1) (nomark _))))))), ?_⟩
  obtain ⟨i, j, rfl, rfl, q⟩ := h
  walk_at "zz"
  exact q
end
def fs_common : F2 := fun a b H Q _ => ∃ i j : Int, a = .int i ∧ b = .int j ∧ 0 ≤ j ∧ Q (.int (Int.gcd i j : Nat)) H
theorem u_common {H : Hp} {Q : VK} {E : XK} {i j : Int} (h : 0 ≤ j) (q : Q (.int (Int.gcd i j : Nat)) H) : sp2 fs_common [.int i, .int j] H Q E := ⟨_, _, rfl, i, j, rfl, rfl, h, q⟩
section
variable {P : Program} {w : World} {K : Frag} {mg : Str → Option Value} {base : Heap}
theorem ok_law_common (L : Lw K mg) {fd : FuncData} (F : FunD K "_law_common" "_law_common" (defArgs s_law_common) (defBody s_law_common) (defScope s_law_common) (df_law_common.dvs K) (df_law_common.kws K) (He.fAd K ("_law_common", none)) fd) : FnOk P w K mg base (L2N.CX P w) 2 (He.fAd K ("_law_common", none)) fd (["one", "two"] : List Str) (sp2 fs_common) := by
  refine FunD.ok F sc_law_common len2 (fun cdv A outer s H vs Q E hr h => ?_)
  obtain ⟨a, b, rfl, h⟩ := h
  refine ⟨_, (pss_cons (ps_set (i := 0) sc_law_common.nd rfl (by first | exact Or.inl rfl | exact Or.inr rfl) (pe_callB o_abs (by rfl) L.f_abs (by decide +kernel) (pa_cons (pv 0) pa_nil)))
    (pss_cons (ps_while (passes_of rfl) (pt_cmpR op_ne (pv 1) pe_int (nomark _)) (pss_cons (ps_set (i := 2) sc_law_common.nd rfl (by first | exact Or.inl rfl | exact Or.inr rfl) (pe_c (c_law_mod (K := K) L) hr (by decide) (L2N.takes_of rfl rfl rfl rfl) (pa_cons (pv 0) (pa_cons (pv 1) pa_nil))))
    (pss_cons (ps_set (i := 0) sc_law_common.nd rfl (by first | exact Or.inl rfl | exact Or.inr rfl) (pv 1))
    (pss_one (ps_set (i := 1) sc_law_common.nd rfl (by first | exact Or.inl rfl | exact Or.inr rfl) (pv 2))))))
    (pss_one (ps_ret (pv 0))))), ?_⟩
  obtain ⟨i, j, rfl, rfl, h0, q⟩ := h
  walk_at "zz"
  refine ⟨fun m σ' H' => ∃ (u v : Int) (r : Option V), σ' = [some (.int u), some (.int v), r] ∧ H' = H ∧ 0 ≤ u ∧ 0 ≤ v ∧ m = v.toNat ∧ Int.gcd u v = Int.gcd i j, ⟨_, _, _, _, rfl, rfl, by omega, h0, rfl, ?_⟩, ?_⟩
  · simp [Int.gcd]
  rintro m σ' H' ⟨u, v, r, rfl, rfl, hu, hv, rfl, hg⟩
  walk_at "zz"
  refine z_d2 (fun c => ?_) (fun c => ?_)
  · subst c
    walk_at "zz"
    have e : u = (Int.gcd i j : Nat) := by
      rw [← hg]
      simp [Int.gcd]
      omega
    rw [e]
    exact q
  · refine ⟨_, fun _ _ h => h, ?_⟩
    walk_at "zz"
    rename_i rr h1 h2 h3
    refine ⟨_, ?_, _, _, _, rfl, rfl, hv, h1, rfl, ?_⟩
    · omega
    · rw [← h3, ← hg]
      exact S1.gcd_step hu hv
theorem c_law_common (L : Lw K mg) : Cal P w K mg base 2 "_law_common" (sp2 fs_common) [] := by
  obtain ⟨fd, F⟩ := L.d_law_common
  exact ⟨⟨_, fd, ["one", "two"], [], ok_law_common L F, L.g_law_common, F.kp, F.bindsN (fun _ _ _ _ _ _ us hl => match us, hl with | [_, _], _ => rfl), .nil⟩⟩
theorem ch_law_common (L : Lw K mg) : CalH P w K mg base 2 "_law_common" (sp2 fs_common) := by
  obtain ⟨fd, F⟩ := L.d_law_common
  refine ⟨_, fd, ["one", "two"], okH F sc_law_common len2 (fun cdv A outer s H vs Q E p hot1 hrH h => ?_), L.g_law_common, F.kp, F.bindsN (fun _ _ _ _ _ _ us hl => match us, hl with | [_, _], _ => rfl)⟩
  obtain ⟨a, b, rfl, h⟩ := h
  refine ⟨_, (pss_cons (ps_set (i := 0) sc_law_common.nd rfl (by first | exact Or.inl rfl | exact Or.inr rfl) (pe_callB o_abs (by rfl) L.f_abs (by decide +kernel) (pa_cons (pv 0) pa_nil)))
    (pss_cons (ps_while (passes_of rfl) (pt_cmpR op_ne (pv 1) pe_int (nomark _)) (pss_cons (ps_set (i := 2) sc_law_common.nd rfl (by first | exact Or.inl rfl | exact Or.inr rfl) (pe_ch (ch_law_mod (K := K) L) hrH (by decide) (hot_in hot1) (pa_cons (pv 0) (pa_cons (pv 1) pa_nil))))
    (pss_cons (ps_set (i := 0) sc_law_common.nd rfl (by first | exact Or.inl rfl | exact Or.inr rfl) (pv 1))
    (pss_one (ps_set (i := 1) sc_law_common.nd rfl (by first | exact Or.inl rfl | exact Or.inr rfl) (pv 2))))))
    (pss_one (ps_ret (pv 0))))), ?_⟩
  obtain ⟨i, j, rfl, rfl, h0, q⟩ := h
  walk_at "zz"
  refine ⟨fun m σ' H' => ∃ (u v : Int) (r : Option V), σ' = [some (.int u), some (.int v), r] ∧ H' = H ∧ 0 ≤ u ∧ 0 ≤ v ∧ m = v.toNat ∧ Int.gcd u v = Int.gcd i j, ⟨_, _, _, _, rfl, rfl, by omega, h0, rfl, ?_⟩, ?_⟩
  · simp [Int.gcd]
  rintro m σ' H' ⟨u, v, r, rfl, rfl, hu, hv, rfl, hg⟩
  walk_at "zz"
  refine z_d2 (fun c => ?_) (fun c => ?_)
  · subst c
    walk_at "zz"
    have e : u = (Int.gcd i j : Nat) := by
      rw [← hg]
      simp [Int.gcd]
      omega
    rw [e]
    exact q
  · refine ⟨_, fun _ _ h => h, ?_⟩
    walk_at "zz"
    rename_i rr h1 h2 h3
    refine ⟨_, ?_, _, _, _, rfl, rfl, hv, h1, rfl, ?_⟩
    · omega
    · rw [← h3, ← hg]
      exact S1.gcd_step hu hv
end
end T

set_option maxHeartbeats 4000000
namespace T
open PySem PySem.Spec PyProof.Rows L2 Z
/-! the readings' steps, as one word: walk_at "z" (one step), "zz" (as far as it goes), "up" (a fact carried here) -/
local macro_rules | `(tactic| walk_at "up") => `(tactic| first
  | assumption
  | (refine' IsR.mono (by assumption) ?zup; case zup => walk_at "up")
  | (refine' IsE.mono (by assumption) ?zup; case zup => walk_at "up")
  | (refine' Same.at (by assumption) ?zup; case zup => walk_at "up")
  | (refine' SqL.of ?zup; case zup => walk_at "up")
  | (refine' L2.Same.seq (by assumption) ?zup; case zup => walk_at "up"))
local macro_rules | `(tactic| walk_at "z") => `(tactic| first
  | ((with_reducible refine' z_var ?zvh ?_); (case zvh => exact rfl))
  | with_reducible refine z_c ?_
  | with_reducible refine z_cons ?_
  | with_reducible refine z_nil ?_
  | with_reducible refine z_op ?_
  | with_reducible refine z_nx ?_
  | with_reducible refine z_seq ?_
  | with_reducible refine z_asg ?_
  | with_reducible refine z_asgG ?_
  | with_reducible refine z_call ?_
  | with_reducible refine z_sq0 ?_
  | with_reducible refine z_sq1 ?_
  | with_reducible refine z_ifS ?_
  | with_reducible refine z_test ?_
  | with_reducible refine z_tb ?_
  | with_reducible refine z_bl ?_
  | with_reducible refine z_blI ?_
  | with_reducible refine z_ret ?_
  | with_reducible refine z_rt ?_
  | with_reducible refine z_T ?_
  | with_reducible refine z_F ?_
  | with_reducible refine z_add ?_
  | with_reducible refine z_sub ?_
  | with_reducible refine z_neg ?_
  | with_reducible refine z_un ?_
  | with_reducible refine z_eqI ?_
  | with_reducible refine z_neI ?_
  | with_reducible refine z_lt ?_
  | with_reducible refine z_le ?_
  | with_reducible refine z_gt ?_
  | with_reducible refine z_ge ?_
  | with_reducible refine z_not ?_
  | with_reducible refine z_and ?_
  | with_reducible refine z_or ?_
  | with_reducible refine z_andV ?_
  | with_reducible refine z_orV ?_
  | with_reducible refine z_notV ?_
  | with_reducible refine z_if ?_
  | with_reducible refine z_cb ?_
  | with_reducible refine z_int1 ?_
  | with_reducible refine z_intb ?_
  | with_reducible refine z_abs ?_
  | with_reducible refine z_gcd ?_
  | with_reducible refine z_isi_ii ?_
  | with_reducible refine z_isi_ib ?_
  | with_reducible refine z_next ?_
  | with_reducible refine z_drop ?_
  | with_reducible refine z_par ?_
  | with_reducible refine z_par2 ?_
  | with_reducible refine z_tupN ?_
  | with_reducible refine z_lstN ?_
  | ((with_reducible refine' z_nt ?zl1 ?_); (case zl1 => exact Nat.le_of_ble_eq_true rfl); intro p H' hp hs he)
  | ((with_reducible refine' z_gtup ?zl1 ?zl2 ?_); (case zl1 => walk_at "up"); (case zl2 => exact rfl))
  | with_reducible refine z_bk ?_
  | with_reducible refine z_ct ?_
  | with_reducible refine z_break ?_
  | with_reducible refine z_cont ?_
  | with_reducible refine z_retN ?_
  | with_reducible refine z_nn ?_
  | with_reducible refine z_mk ?_
  | with_reducible refine z_gn ?_
  | with_reducible refine z_gcons ?_
  | with_reducible refine z_gnil ?_
  | with_reducible refine z_mt ?_
  | with_reducible refine z_mko ?_
  | with_reducible refine z_for2 ?_
  | with_reducible refine z_ownI ?_
  | ((with_reducible refine' z_lenL ?zl1 ?_); (case zl1 => walk_at "up"))
  | ((with_reducible refine' z_ixT ?zl1 ?zl2 ?_); (case zl1 => walk_at "up"); (case zl2 => exact rfl))
  | ((with_reducible refine' z_mulL ?zl1 ?zl2 ?_); (case zl1 => omega); (case zl2 => omega))
  | ((with_reducible refine' z_mulR ?zl1 ?zl2 ?_); (case zl1 => omega); (case zl2 => omega))
  | ((with_reducible refine' z_divS ?zl1 ?zl2 ?_); (case zl1 => omega); (case zl2 => omega))
  | ((with_reducible refine' z_mulW ?zl1 ?zl2 ?zl3 ?zl4 ?_); (case zl1 => omega); (case zl2 => omega); (case zl3 => omega); (case zl4 => omega))
  | ((with_reducible refine' z_divW ?zl1 ?zl2 ?_); (case zl1 => omega); (case zl2 => omega)))
local macro_rules | `(tactic| walk_at "zz") => `(tactic| repeat (walk_at "z"))

local macro_rules | `(tactic| walk_at "z") => `(tactic| ((with_reducible refine' u_mod ?zl1 ?_); (case zl1 => omega); intro r hr0 hr1 hre))
local macro_rules | `(tactic| walk_at "z") => `(tactic| ((with_reducible refine' u_cell ?zl1 ?zl2 ?_); (case zl1 => walk_at "up"); (case zl2 => omega); intro c))
local macro_rules | `(tactic| walk_at "z") => `(tactic| ((with_reducible refine' u_signed ?zl1 ?_); (case zl1 => omega); intro r hr0 hr1))
local macro_rules | `(tactic| walk_at "z") => `(tactic| with_reducible refine u_whole ?_)
local macro_rules | `(tactic| walk_at "z") => `(tactic| ((with_reducible refine' u_common ?zl1 ?_); (case zl1 => omega)))
local macro_rules | `(tactic| walk_at "z") => `(tactic| ((with_reducible refine' z_fldt ?zc1 ?zc2 ?zl1 ?zl2 ?_); (case zc1 => exact Lw.cl_Ratio (by assumption)); (case zc2 => exact Lw.na_Ratio_top (by assumption)); (case zl1 => exact rfl); (case zl2 => walk_at "up")))
local macro_rules | `(tactic| walk_at "z") => `(tactic| ((with_reducible refine' z_fldb ?zc1 ?zc2 ?zl1 ?zl2 ?_); (case zc1 => exact Lw.cl_Ratio (by assumption)); (case zc2 => exact Lw.na_Ratio_bottom (by assumption)); (case zl1 => exact rfl); (case zl2 => walk_at "up")))
section
variable {P : Program} {w : World} {K : Frag} {mg : Str → Option Value} {base : Heap}
theorem ok_RatioD_initD (L : Lw K mg) {fd : FuncData} (F : FunD K "__init__" "Ratio.__init__" (defArgs s_RatioD_initD) (defBody s_RatioD_initD) (defScope s_RatioD_initD) (df_RatioD_initD.dvs K) (df_RatioD_initD.kws K) (He.fAd K ("Ratio", some "__init__")) fd) : FnOk P w K mg base (L2N.CX P w) 1 (He.fAd K ("Ratio", some "__init__")) fd (["self", "top", "bottom"] : List Str) (sp3 (fs_rinit K)) := by
  refine FunD.ok F sc_RatioD_initD len3 (fun cdv A outer s H vs Q E hr h => ?_)
  obtain ⟨a, b, c, rfl, h⟩ := h
  refine ⟨_, (pss_cons (ps_if (pt_cmpR op_eq (pv 2) pe_int (nomark _)) (pss_one (L2N.ps_raise rfl (L2N.takes_of rfl rfl rfl rfl) (pmk_x0 PySem.F.excBase_ValueError L.xi_ZeroBottom L.g_ZeroBottom L.kp_ZeroBottom (raises_own L.xb_ZeroBottom L.xt_ZeroBottom)))) pss_nil)
    (pss_cons (ps_set (i := 3) sc_RatioD_initD.nd rfl (by first | exact Or.inl rfl | exact Or.inr rfl) (pe_callBfun cr_gcd rfl L.v_gcd (pa_cons (pv 1) (pa_cons (pv 2) pa_nil))))
    (pss_cons (ps_if (pt_cmpR o_lt (pv 2) pe_int (nomark _)) (pss_one (ps_set (i := 3) sc_RatioD_initD.nd rfl (by first | exact Or.inl rfl | exact Or.inr rfl) (pe_un o_neg (pv 3)))) pss_nil)
    (pss_cons (ps_fld (pv 0) (pe_op o_div (pv 1) (pv 3)) rfl)
    (pss_one (ps_fld (pv 0) (pe_op o_div (pv 2) (pv 3)) rfl)))))), ?_⟩
  obtain ⟨x, dx, H0, n, d, rfl, rfl, rfl, rfl, hx, hdx, ne, hb, k, kz⟩ := h
  walk_at "zz"
  have sm : Same H0 (upd (upd H0 dx (.own x)) x (.ins (He.ga K "Ratio") dx [])) := fun y o hy => by
    rw [upd_ne (ne_of_none hy hx), upd_ne (ne_of_none hy hdx)]
    exact hy
  refine z_d2 (fun c => kz c _ sm) (fun c => ?_)
  have hc := rc_bits (n := n) c hb
  have hc0 := rc_ne (n := n) c
  walk_at "zz"
  refine z_d2 (fun c2 => ?_) (fun c2 => ?_)
  · walk_at "zz"
    have e : rc n d = -((Int.gcd n d : Nat) : Int) := by unfold rc; rw [if_pos c2]
    rw [e] at hc hc0
    refine run_rinit (a := .int (rt n d)) (b := .int (rb n d)) L.cl_Ratio L.na_Ratio_top L.na_Ratio_bottom hx hdx ne rfl (fun H1 Q1 q1 => ?_) (fun H1 Q1 q1 => ?_) (fun H' e1 e2 => k c H' e1 ⟨dx, e2⟩)
    · walk_at "zz"
      refine z_divN hc0 hc (by decide) (by decide) ?_
      unfold rt at q1
      rw [e] at q1
      exact q1
    · walk_at "zz"
      refine z_divN hc0 hc (by decide) (by decide) ?_
      unfold rb at q1
      rw [e] at q1
      exact q1
  · walk_at "zz"
    have e : rc n d = ((Int.gcd n d : Nat) : Int) := by unfold rc; rw [if_neg c2]
    rw [e] at hc hc0
    refine run_rinit (a := .int (rt n d)) (b := .int (rb n d)) L.cl_Ratio L.na_Ratio_top L.na_Ratio_bottom hx hdx ne rfl (fun H1 Q1 q1 => ?_) (fun H1 Q1 q1 => ?_) (fun H' e1 e2 => k c H' e1 ⟨dx, e2⟩)
    · walk_at "zz"
      refine z_divN hc0 hc (by decide) (by decide) ?_
      unfold rt at q1
      rw [e] at q1
      exact q1
    · walk_at "zz"
      refine z_divN hc0 hc (by decide) (by decide) ?_
      unfold rb at q1
      rw [e] at q1
      exact q1
theorem c_RatioD_initD (L : Lw K mg) : Mak P w K mg base 1 "Ratio" (He.ga K "Ratio") (sp3 (fs_rinit K)) [] := by
  obtain ⟨fd, F⟩ := L.d_RatioD_initD
  obtain ⟨ds, vds, bds⟩ := F.binds1 (ps := ["self", "top", "bottom"]) 3 1 (by intro z; cases z) rfl (fun _ _ _ _ _ _ _ us its hl hi => match us, its, hl, hi with | [_, _, _], [_], _, _ => ⟨_, rfl, rfl⟩)
  exact ⟨⟨_, fd, ["self", "top", "bottom"], ds, L.mk_Ratio, ok_RatioD_initD L F, L.g_Ratio, bds, vds⟩⟩
theorem c1_RatioD_initD (L : Lw K mg) : Mak P w K mg base 1 "Ratio" (He.ga K "Ratio") (sp3 (fs_rinit K)) [V.int 1] := by
  obtain ⟨fd, F⟩ := L.d_RatioD_initD
  obtain ⟨ds, vds, bds⟩ := F.binds1 (ps := ["self", "top", "bottom"]) 2 0 (by intro z; cases z) rfl (fun _ _ _ _ _ _ _ us its hl hi => match us, its, hl, hi with | [_, _], [_], _, _ => ⟨_, rfl, rfl⟩)
  exact ⟨⟨_, fd, ["self", "top", "bottom"], ds, L.mk_Ratio, ok_RatioD_initD L F, L.g_Ratio, bds, vds⟩⟩
end
def cmpI (x y : Int) : Int := if x < y then -1 else if y < x then 1 else 0
def fs_rcmp (K : Frag) : F2 := fun a b H Q _ => ∃ (p r : Addr) (t u t' u' : Int), a = .ref p ∧ b = .ref r ∧ IsR K H p t u ∧ IsR K H r t' u' ∧ IntMulOk t u' ∧ IntMulOk t' u ∧ Q (.int (cmpI (t * u') (t' * u))) H
def fs_rsign (K : Frag) : F1 := fun a H Q _ => ∃ (p : Addr) (t u : Int), a = .ref p ∧ IsR K H p t u ∧ Q (.int (cmpI t 0)) H
def fs_rneg (K : Frag) : F1 := fun a H Q _ => ∃ (p : Addr) (t u : Int), a = .ref p ∧ IsR K H p t u ∧ u ≠ 0 ∧ -1606938044258990275541962092341162602522202993782792835301376 < u ∧ u < 1606938044258990275541962092341162602522202993782792835301376 ∧ ∀ r H', Same H H' → IsR K H' r (rt (-t) u) (rb (-t) u) → Q (.ref r) H'
section
variable {P : Program} {w : World} {K : Frag} {mg : Str → Option Value} {base : Heap}
theorem ok_Ratio_compare (L : Lw K mg) {fd : FuncData} (F : FunD K "compare" "Ratio.compare" (defArgs s_Ratio_compare) (defBody s_Ratio_compare) (defScope s_Ratio_compare) (df_Ratio_compare.dvs K) (df_Ratio_compare.kws K) (He.fAd K ("Ratio", some "compare")) fd) : FnOk P w K mg base (L2N.CX P w) 1 (He.fAd K ("Ratio", some "compare")) fd (["self", "other"] : List Str) (sp2 (fs_rcmp K)) := by
  refine FunD.ok F sc_Ratio_compare len2 (fun cdv A outer s H vs Q E hr h => ?_)
  obtain ⟨a, b, rfl, h⟩ := h
  refine ⟨_, (pss_cons (ps_set (i := 2) sc_Ratio_compare.nd rfl (by first | exact Or.inl rfl | exact Or.inr rfl) (pe_op o_mul (pe_fld (pv 0) rfl) (pe_fld (pv 1) rfl)))
    (pss_cons (ps_set (i := 3) sc_Ratio_compare.nd rfl (by first | exact Or.inl rfl | exact Or.inr rfl) (pe_op o_mul (pe_fld (pv 1) rfl) (pe_fld (pv 0) rfl)))
    (pss_cons (ps_if (pt_cmpR o_lt (pv 2) (pv 3) (nomark _)) (pss_one (ps_ret (pe_un o_neg pe_int))) pss_nil)
    (pss_one (ps_ret (pe_ifExp (pt_cmpR o_gt (pv 2) (pv 3) (nomark _)) pe_int pe_int)))))), ?_⟩
  obtain ⟨p, r, t, u, t', u', rfl, rfl, h1, h2, m1, m2, q⟩ := h
  walk_at "zz"
  refine z_mul m1 ?_
  walk_at "zz"
  refine z_mul m2 ?_
  walk_at "zz"
  unfold cmpI at q
  refine z_d2 (fun c => ?_) (fun c => ?_)
  · rw [if_pos c] at q
    walk_at "zz"
    exact q
  · rw [if_neg c] at q
    walk_at "zz"
    refine z_d2 (fun c => ?_) (fun c => ?_)
    · rw [if_pos c] at q
      walk_at "zz"
      exact q
    · rw [if_neg c] at q
      walk_at "zz"
      exact q
theorem c_Ratio_compare (L : Lw K mg) : Met P w K mg base 1 (He.ga K "Ratio") "compare" (sp2 (fs_rcmp K)) [] := by
  obtain ⟨fd, F⟩ := L.d_Ratio_compare
  exact ⟨⟨_, fd, ["self", "other"], [], L.cl_Ratio, L.me_Ratio_compare, ok_Ratio_compare L F, F.bindsN (fun _ _ _ _ _ _ us hl => match us, hl with | [_, _], _ => rfl), .nil⟩⟩
theorem ok_Ratio_sign (L : Lw K mg) {fd : FuncData} (F : FunD K "sign" "Ratio.sign" (defArgs s_Ratio_sign) (defBody s_Ratio_sign) (defScope s_Ratio_sign) (df_Ratio_sign.dvs K) (df_Ratio_sign.kws K) (He.fAd K ("Ratio", some "sign")) fd) : FnOk P w K mg base (L2N.CX P w) 1 (He.fAd K ("Ratio", some "sign")) fd (["self"] : List Str) (sp1 (fs_rsign K)) := by
  refine FunD.ok F sc_Ratio_sign len1 (fun cdv A outer s H vs Q E hr h => ?_)
  obtain ⟨a, rfl, h⟩ := h
  refine ⟨_, (pss_cons (ps_if (pt_cmpR o_lt (pe_fld (pv 0) rfl) pe_int (nomark _)) (pss_one (ps_ret (pe_un o_neg pe_int))) pss_nil)
    (pss_one (ps_ret (pe_ifExp (pt_cmpR o_gt (pe_fld (pv 0) rfl) pe_int (nomark _)) pe_int pe_int)))), ?_⟩
  obtain ⟨p, t, u, rfl, h1, q⟩ := h
  walk_at "zz"
  unfold cmpI at q
  refine z_d2 (fun c => ?_) (fun c => ?_)
  · rw [if_pos c] at q
    walk_at "zz"
    exact q
  · rw [if_neg c] at q
    walk_at "zz"
    refine z_d2 (fun c => ?_) (fun c => ?_)
    · rw [if_pos c] at q
      walk_at "zz"
      exact q
    · rw [if_neg c] at q
      walk_at "zz"
      exact q
theorem c_Ratio_sign (L : Lw K mg) : Met P w K mg base 1 (He.ga K "Ratio") "sign" (sp1 (fs_rsign K)) [] := by
  obtain ⟨fd, F⟩ := L.d_Ratio_sign
  exact ⟨⟨_, fd, ["self"], [], L.cl_Ratio, L.me_Ratio_sign, ok_Ratio_sign L F, F.bindsN (fun _ _ _ _ _ _ us hl => match us, hl with | [_], _ => rfl), .nil⟩⟩
theorem ok_RatioD_negD (L : Lw K mg) {fd : FuncData} (F : FunD K "__neg__" "Ratio.__neg__" (defArgs s_RatioD_negD) (defBody s_RatioD_negD) (defScope s_RatioD_negD) (df_RatioD_negD.dvs K) (df_RatioD_negD.kws K) (He.fAd K ("Ratio", some "__neg__")) fd) : FnOk P w K mg base (L2N.CX P w) 3 (He.fAd K ("Ratio", some "__neg__")) fd (["self"] : List Str) (sp1 (fs_rneg K)) := by
  refine FunD.ok F sc_RatioD_negD len1 (fun cdv A outer s H vs Q E hr h => ?_)
  obtain ⟨a, rfl, h⟩ := h
  refine ⟨_, (pss_one (ps_ret (pe_mk (c_RatioD_initD (K := K) L) hr (by decide) (L2N.takes_of rfl rfl rfl rfl) (pa_cons (pe_un o_neg (pe_fld (pv 0) rfl)) (pa_cons (pe_fld (pv 0) rfl) pa_nil))))), ?_⟩
  obtain ⟨p, t, u, rfl, h1, u0, h1b, h2b, k⟩ := h
  walk_at "zz"
  exact z_mkR2 u0 h1b h2b k
theorem c_RatioD_negD (L : Lw K mg) : Met P w K mg base 3 (He.ga K "Ratio") "__neg__" (sp1 (fs_rneg K)) [] := by
  obtain ⟨fd, F⟩ := L.d_RatioD_negD
  exact ⟨⟨_, fd, ["self"], [], L.cl_Ratio, L.me_RatioD_negD, ok_RatioD_negD L F, F.bindsN (fun _ _ _ _ _ _ us hl => match us, hl with | [_], _ => rfl), .nil⟩⟩
theorem ok_CrossedD_initD (L : Lw K mg) {fd : FuncData} (F : FunD K "__init__" "Crossed.__init__" (defArgs s_CrossedD_initD) (defBody s_CrossedD_initD) (defScope s_CrossedD_initD) (df_CrossedD_initD.dvs K) (df_CrossedD_initD.kws K) (He.fAd K ("Crossed", some "__init__")) fd) : FnOk P w K mg base (L2N.CX P w) 1 (He.fAd K ("Crossed", some "__init__")) fd (["self", "low", "high"] : List Str) (sp3 (fs_ex2 K "Crossed" "low" "high")) := by
  refine FunD.ok F sc_CrossedD_initD len3 (fun cdv A outer s H vs Q E hr h => ?_)
  obtain ⟨a, b, c, rfl, h⟩ := h
  refine ⟨_, (pss_cons (ps_ost (pv 0) (pv 1))
    (pss_one (ps_ost (pv 0) (pv 2)))), ?_⟩
  obtain ⟨e, H0, rfl, rfl, h0, k⟩ := h
  exact run_ex2 (L.ox_Crossed).1 L.na_Crossed_low L.na_Crossed_high h0 rfl rfl rfl k
theorem c_CrossedD_initD (L : Lw K mg) : MakX P w K mg base 1 "Crossed" (He.ga K "Crossed") (sp3 (fs_ex2 K "Crossed" "low" "high")) := by
  obtain ⟨fd, F⟩ := L.d_CrossedD_initD
  exact ⟨⟨_, fd, ["self", "low", "high"], (L.ox_Crossed).1, (L.ox_Crossed).2.1, (L.ox_Crossed).2.2, ok_CrossedD_initD L F, L.g_Crossed, F.bindsN (fun _ _ _ _ _ _ us hl => match us, hl with | [_, _, _], _ => rfl)⟩⟩
end
end T

set_option maxHeartbeats 4000000
namespace T
open PySem PySem.Spec PyProof.Rows L2 Z
/-! the readings' steps, as one word: walk_at "z" (one step), "zz" (as far as it goes), "up" (a fact carried here) -/
local macro_rules | `(tactic| walk_at "up") => `(tactic| first
  | assumption
  | (refine' IsR.mono (by assumption) ?zup; case zup => walk_at "up")
  | (refine' IsE.mono (by assumption) ?zup; case zup => walk_at "up")
  | (refine' Same.at (by assumption) ?zup; case zup => walk_at "up")
  | (refine' SqL.of ?zup; case zup => walk_at "up")
  | (refine' L2.Same.seq (by assumption) ?zup; case zup => walk_at "up"))
local macro_rules | `(tactic| walk_at "z") => `(tactic| first
  | ((with_reducible refine' z_var ?zvh ?_); (case zvh => exact rfl))
  | with_reducible refine z_c ?_
  | with_reducible refine z_cons ?_
  | with_reducible refine z_nil ?_
  | with_reducible refine z_op ?_
  | with_reducible refine z_nx ?_
  | with_reducible refine z_seq ?_
  | with_reducible refine z_asg ?_
  | with_reducible refine z_asgG ?_
  | with_reducible refine z_call ?_
  | with_reducible refine z_sq0 ?_
  | with_reducible refine z_sq1 ?_
  | with_reducible refine z_ifS ?_
  | with_reducible refine z_test ?_
  | with_reducible refine z_tb ?_
  | with_reducible refine z_bl ?_
  | with_reducible refine z_blI ?_
  | with_reducible refine z_ret ?_
  | with_reducible refine z_rt ?_
  | with_reducible refine z_T ?_
  | with_reducible refine z_F ?_
  | with_reducible refine z_add ?_
  | with_reducible refine z_sub ?_
  | with_reducible refine z_neg ?_
  | with_reducible refine z_un ?_
  | with_reducible refine z_eqI ?_
  | with_reducible refine z_neI ?_
  | with_reducible refine z_lt ?_
  | with_reducible refine z_le ?_
  | with_reducible refine z_gt ?_
  | with_reducible refine z_ge ?_
  | with_reducible refine z_not ?_
  | with_reducible refine z_and ?_
  | with_reducible refine z_or ?_
  | with_reducible refine z_andV ?_
  | with_reducible refine z_orV ?_
  | with_reducible refine z_notV ?_
  | with_reducible refine z_if ?_
  | with_reducible refine z_cb ?_
  | with_reducible refine z_int1 ?_
  | with_reducible refine z_intb ?_
  | with_reducible refine z_abs ?_
  | with_reducible refine z_gcd ?_
  | with_reducible refine z_isi_ii ?_
  | with_reducible refine z_isi_ib ?_
  | with_reducible refine z_next ?_
  | with_reducible refine z_drop ?_
  | with_reducible refine z_par ?_
  | with_reducible refine z_par2 ?_
  | with_reducible refine z_tupN ?_
  | with_reducible refine z_lstN ?_
  | ((with_reducible refine' z_nt ?zl1 ?_); (case zl1 => exact Nat.le_of_ble_eq_true rfl); intro p H' hp hs he)
  | ((with_reducible refine' z_gtup ?zl1 ?zl2 ?_); (case zl1 => walk_at "up"); (case zl2 => exact rfl))
  | with_reducible refine z_bk ?_
  | with_reducible refine z_ct ?_
  | with_reducible refine z_break ?_
  | with_reducible refine z_cont ?_
  | with_reducible refine z_retN ?_
  | with_reducible refine z_nn ?_
  | with_reducible refine z_mk ?_
  | with_reducible refine z_gn ?_
  | with_reducible refine z_gcons ?_
  | with_reducible refine z_gnil ?_
  | with_reducible refine z_mt ?_
  | with_reducible refine z_mko ?_
  | with_reducible refine z_for2 ?_
  | with_reducible refine z_ownI ?_
  | ((with_reducible refine' z_lenL ?zl1 ?_); (case zl1 => walk_at "up"))
  | ((with_reducible refine' z_ixT ?zl1 ?zl2 ?_); (case zl1 => walk_at "up"); (case zl2 => exact rfl))
  | ((with_reducible refine' z_mulL ?zl1 ?zl2 ?_); (case zl1 => omega); (case zl2 => omega))
  | ((with_reducible refine' z_mulR ?zl1 ?zl2 ?_); (case zl1 => omega); (case zl2 => omega))
  | ((with_reducible refine' z_divS ?zl1 ?zl2 ?_); (case zl1 => omega); (case zl2 => omega))
  | ((with_reducible refine' z_mulW ?zl1 ?zl2 ?zl3 ?zl4 ?_); (case zl1 => omega); (case zl2 => omega); (case zl3 => omega); (case zl4 => omega))
  | ((with_reducible refine' z_divW ?zl1 ?zl2 ?_); (case zl1 => omega); (case zl2 => omega)))
local macro_rules | `(tactic| walk_at "zz") => `(tactic| repeat (walk_at "z"))
local macro_rules | `(tactic| walk_at "z") => `(tactic| ((with_reducible refine' u_mod ?zl1 ?_); (case zl1 => omega); intro r hr0 hr1 hre))
local macro_rules | `(tactic| walk_at "z") => `(tactic| ((with_reducible refine' u_cell ?zl1 ?zl2 ?_); (case zl1 => walk_at "up"); (case zl2 => omega); intro c))
local macro_rules | `(tactic| walk_at "z") => `(tactic| ((with_reducible refine' u_signed ?zl1 ?_); (case zl1 => omega); intro r hr0 hr1))
local macro_rules | `(tactic| walk_at "z") => `(tactic| with_reducible refine u_whole ?_)
local macro_rules | `(tactic| walk_at "z") => `(tactic| ((with_reducible refine' u_common ?zl1 ?_); (case zl1 => omega)))
local macro_rules | `(tactic| walk_at "z") => `(tactic| ((with_reducible refine' z_fldt ?zc1 ?zc2 ?zl1 ?zl2 ?_); (case zc1 => exact Lw.cl_Ratio (by assumption)); (case zc2 => exact Lw.na_Ratio_top (by assumption)); (case zl1 => exact rfl); (case zl2 => walk_at "up")))
local macro_rules | `(tactic| walk_at "z") => `(tactic| ((with_reducible refine' z_fldb ?zc1 ?zc2 ?zl1 ?zl2 ?_); (case zc1 => exact Lw.cl_Ratio (by assumption)); (case zc2 => exact Lw.na_Ratio_bottom (by assumption)); (case zl1 => exact rfl); (case zl2 => walk_at "up")))
local macro_rules | `(tactic| walk_at "z") => `(tactic| ((with_reducible refine' z_mtR ?zl1 ?_); (case zl1 => walk_at "up")))
local macro_rules | `(tactic| walk_at "z") => `(tactic| ((with_reducible refine' z_isR ?zl1 ?zl2 ?zl3 ?_); (case zl1 => exact Lw.in_Ratio (by assumption)); (case zl2 => exact Lw.kt_Ratio_Ratio (by assumption)); (case zl3 => walk_at "up")))

/-- ends that the law makes -/
structure EOk (lt lb ht hb : Int) : Prop where
  b1 : 1 ≤ lb
  b2 : 1 ≤ hb
  c1 : lb ≤ 1208925819614629174706176
  c2 : hb ≤ 1208925819614629174706176
  l1 : -1208925819614629174706176 ≤ lt
  l2 : lt ≤ 1208925819614629174706176
  h1 : -1208925819614629174706176 ≤ ht
  h2 : ht ≤ 1208925819614629174706176
def fs_btw : F3 := fun a b c H Q _ => ∃ (p q : Int) (e : Addr) (lt lb ht hb : Int), a = .int p ∧ b = .int q ∧ c = .ref e ∧ IsE H e lt lb ht hb ∧ EOk lt lb ht hb ∧ -1606938044258990275541962092341162602522202993782792835301376 < p ∧ p < 1606938044258990275541962092341162602522202993782792835301376 ∧ -1606938044258990275541962092341162602522202993782792835301376 < q ∧ q < 1606938044258990275541962092341162602522202993782792835301376 ∧ ∀ r : Bool, (r = true ↔ S1.Btw lt lb ht hb p q) → Q (.bl r) H
theorem u_btw {p q : Int} {e : Addr} {lt lb ht hb : Int} {H : Hp} {Q : VK} {E : XK} (h : IsE H e lt lb ht hb) (k : EOk lt lb ht hb) (p1 : -1606938044258990275541962092341162602522202993782792835301376 < p) (p2 : p < 1606938044258990275541962092341162602522202993782792835301376) (q1 : -1606938044258990275541962092341162602522202993782792835301376 < q) (q2 : q < 1606938044258990275541962092341162602522202993782792835301376) (k2 : ∀ r : Bool, (r = true ↔ S1.Btw lt lb ht hb p q) → Q (.bl r) H) : sp3 fs_btw [.int p, .int q, .ref e] H Q E := ⟨_, _, _, rfl, p, q, e, lt, lb, ht, hb, rfl, rfl, rfl, h, k, p1, p2, q1, q2, k2⟩
section
variable {P : Program} {w : World} {K : Frag} {mg : Str → Option Value} {base : Heap}
theorem ok_law_between (L : Lw K mg) {fd : FuncData} (F : FunD K "_law_between" "_law_between" (defArgs s_law_between) (defBody s_law_between) (defScope s_law_between) (df_law_between.dvs K) (df_law_between.kws K) (He.fAd K ("_law_between", none)) fd) : FnOk P w K mg base (L2N.CX P w) 1 (He.fAd K ("_law_between", none)) fd (["p", "q", "ends"] : List Str) (sp3 fs_btw) := by
  refine FunD.ok F sc_law_between len3 (fun cdv A outer s H vs Q E hr h => ?_)
  obtain ⟨a, b, c, rfl, h⟩ := h
  refine ⟨_, (pss_cons (ps_set (i := 3) sc_law_between.nd rfl (by first | exact Or.inl rfl | exact Or.inr rfl) (pe_ix ix_seq (pv 2) pe_int (fun _ _ => rfl)))
    (pss_cons (ps_set (i := 4) sc_law_between.nd rfl (by first | exact Or.inl rfl | exact Or.inr rfl) (pe_ix ix_seq (pv 2) pe_int (fun _ _ => rfl)))
    (pss_one (ps_ret (pe_and (pe_cmpR o_le (pe_op o_mul (pe_ix ix_seq (pv 3) pe_int (fun _ _ => rfl)) (pv 1)) (pe_op o_mul (pv 0) (pe_ix ix_seq (pv 3) pe_int (fun _ _ => rfl))) (nomark _)) (pe_one (pe_cmpR o_le (pe_op o_mul (pv 0) (pe_ix ix_seq (pv 4) pe_int (fun _ _ => rfl))) (pe_op o_mul (pe_ix ix_seq (pv 4) pe_int (fun _ _ => rfl)) (pv 1)) (nomark _)))))))), ?_⟩
  obtain ⟨p, q, e, lt, lb, ht, hb, rfl, rfl, rfl, ⟨x, y, h1, h2, h3⟩, ⟨b1, b2, c1, c2, l1, l2, g1, g2⟩, p1, p2, q1, q2, k⟩ := h
  walk_at "zz"
  refine z_d2 (fun c => ?_) (fun c => ?_)
  · walk_at "zz"
    refine k _ ?_
    unfold S1.Btw
    rw [decide_eq_true_iff]
    exact ⟨fun z => ⟨c, z⟩, fun z => z.2⟩
  · walk_at "zz"
    refine k _ ?_
    unfold S1.Btw
    exact ⟨(fun z => nomatch z), fun z => absurd z.1 c⟩
theorem c_law_between (L : Lw K mg) : Cal P w K mg base 1 "_law_between" (sp3 fs_btw) [] := by
  obtain ⟨fd, F⟩ := L.d_law_between
  exact ⟨⟨_, fd, ["p", "q", "ends"], [], ok_law_between L F, L.g_law_between, F.kp, F.bindsN (fun _ _ _ _ _ _ us hl => match us, hl with | [_, _, _], _ => rfl), .nil⟩⟩
end
def fs_nl : F2 := fun a b H Q _ => ∃ (n : Int) (e : Addr) (lt lb ht hb : Int), a = .int n ∧ b = .ref e ∧ IsE H e lt lb ht hb ∧ EOk lt lb ht hb ∧ 1 ≤ n ∧ n ≤ 60 ∧ (∀ x y : Int, 1 ≤ y → y < n → ¬ S1.Btw lt lb ht hb x y) ∧ Q (.bl true) H
section
variable {P : Program} {w : World} {K : Frag} {mg : Str → Option Value} {base : Heap}
theorem ok_law_none_lesser (L : Lw K mg) {fd : FuncData} (F : FunD K "_law_none_lesser" "_law_none_lesser" (defArgs s_law_none_lesser) (defBody s_law_none_lesser) (defScope s_law_none_lesser) (df_law_none_lesser.dvs K) (df_law_none_lesser.kws K) (He.fAd K ("_law_none_lesser", none)) fd) : FnOk P w K mg base (L2N.CX P w) 1 (He.fAd K ("_law_none_lesser", none)) fd (["bottom", "ends"] : List Str) (sp2 fs_nl) := by
  refine FunD.ok F sc_law_none_lesser len2 (fun cdv A outer s H vs Q E hr h => ?_)
  obtain ⟨a, b, rfl, h⟩ := h
  refine ⟨_, (pss_cons (ps_set (i := 2) sc_law_none_lesser.nd rfl (by first | exact Or.inl rfl | exact Or.inr rfl) (pe_ix ix_seq (pv 1) pe_int (fun _ _ => rfl)))
    (pss_cons (ps_set (i := 3) sc_law_none_lesser.nd rfl (by first | exact Or.inl rfl | exact Or.inr rfl) (pe_ix ix_seq (pv 1) pe_int (fun _ _ => rfl)))
    (pss_cons (ps_for (passes_of rfl) rfl (pi_range2 (by rfl) L.f_range (pa_cons pe_int (pa_cons (pv 0) pa_nil))) (pg_name (i := 4) sc_law_none_lesser.nd rfl (by first | exact Or.inl rfl | exact Or.inr rfl)) (pss_cons (ps_set (i := 5) sc_law_none_lesser.nd rfl (by first | exact Or.inl rfl | exact Or.inr rfl) (pe_un o_neg (pe_op o_div (pe_op o_mul (pe_un o_neg (pe_ix ix_seq (pv 2) pe_int (fun _ _ => rfl))) (pv 4)) (pe_ix ix_seq (pv 2) pe_int (fun _ _ => rfl)))))
    (pss_one (ps_if (pt_cmpR o_le (pv 5) (pe_op o_div (pe_op o_mul (pe_ix ix_seq (pv 3) pe_int (fun _ _ => rfl)) (pv 4)) (pe_ix ix_seq (pv 3) pe_int (fun _ _ => rfl))) (nomark _)) (pss_one (ps_ret pe_bl)) pss_nil))))
    (pss_one (ps_ret pe_bl))))), ?_⟩
  obtain ⟨n, e, lt, lb, ht, hb, rfl, rfl, ⟨x, y, h1, h2, h3⟩, ⟨b1, b2, c1, c2, l1, l2, g1, g2⟩, n1, n2, nl, k⟩ := h
  walk_at "zz"
  refine z_rg ⟨by omega, fun q σ' H' => ∃ u v : Option V, σ' = [some (.int n), some (.ref e), some (.ref x), some (.ref y), u, v] ∧ H' = H, ⟨_, _, rfl, rfl⟩, ?_, ?_⟩
  · rintro q σ' H' hq1 hq2 ⟨u, v, rfl, rfl⟩
    walk_at "zz"
    refine z_dF (S1.none_row b1 b2 nl hq1 hq2) ?_
    walk_at "zz"
    exact ⟨_, _, rfl, rfl⟩
  · rintro q σ' H' hq1 hq2 hq3 ⟨u, v, rfl, rfl⟩
    walk_at "zz"
    exact k
theorem c_law_none_lesser (L : Lw K mg) : Cal P w K mg base 1 "_law_none_lesser" (sp2 fs_nl) [] := by
  obtain ⟨fd, F⟩ := L.d_law_none_lesser
  exact ⟨⟨_, fd, ["bottom", "ends"], [], ok_law_none_lesser L F, L.g_law_none_lesser, F.kp, F.bindsN (fun _ _ _ _ _ _ us hl => match us, hl with | [_, _], _ => rfl), .nil⟩⟩
end
end T

set_option maxHeartbeats 4000000
namespace T
open PySem PySem.Spec PyProof.Rows L2 Z
/-! the readings' steps, as one word: walk_at "z" (one step), "zz" (as far as it goes), "up" (a fact carried here) -/
local macro_rules | `(tactic| walk_at "up") => `(tactic| first
  | assumption
  | (refine' IsR.mono (by assumption) ?zup; case zup => walk_at "up")
  | (refine' IsE.mono (by assumption) ?zup; case zup => walk_at "up")
  | (refine' Same.at (by assumption) ?zup; case zup => walk_at "up")
  | (refine' SqL.of ?zup; case zup => walk_at "up")
  | (refine' L2.Same.seq (by assumption) ?zup; case zup => walk_at "up"))
local macro_rules | `(tactic| walk_at "z") => `(tactic| first
  | ((with_reducible refine' z_var ?zvh ?_); (case zvh => exact rfl))
  | with_reducible refine z_c ?_
  | with_reducible refine z_cons ?_
  | with_reducible refine z_nil ?_
  | with_reducible refine z_op ?_
  | with_reducible refine z_nx ?_
  | with_reducible refine z_seq ?_
  | with_reducible refine z_asg ?_
  | with_reducible refine z_asgG ?_
  | with_reducible refine z_call ?_
  | with_reducible refine z_sq0 ?_
  | with_reducible refine z_sq1 ?_
  | with_reducible refine z_ifS ?_
  | with_reducible refine z_test ?_
  | with_reducible refine z_tb ?_
  | with_reducible refine z_bl ?_
  | with_reducible refine z_blI ?_
  | with_reducible refine z_ret ?_
  | with_reducible refine z_rt ?_
  | with_reducible refine z_T ?_
  | with_reducible refine z_F ?_
  | with_reducible refine z_add ?_
  | with_reducible refine z_sub ?_
  | with_reducible refine z_neg ?_
  | with_reducible refine z_un ?_
  | with_reducible refine z_eqI ?_
  | with_reducible refine z_neI ?_
  | with_reducible refine z_lt ?_
  | with_reducible refine z_le ?_
  | with_reducible refine z_gt ?_
  | with_reducible refine z_ge ?_
  | with_reducible refine z_not ?_
  | with_reducible refine z_and ?_
  | with_reducible refine z_or ?_
  | with_reducible refine z_andV ?_
  | with_reducible refine z_orV ?_
  | with_reducible refine z_notV ?_
  | with_reducible refine z_if ?_
  | with_reducible refine z_cb ?_
  | with_reducible refine z_int1 ?_
  | with_reducible refine z_intb ?_
  | with_reducible refine z_abs ?_
  | with_reducible refine z_gcd ?_
  | with_reducible refine z_isi_ii ?_
  | with_reducible refine z_isi_ib ?_
  | with_reducible refine z_next ?_
  | with_reducible refine z_drop ?_
  | with_reducible refine z_par ?_
  | with_reducible refine z_par2 ?_
  | with_reducible refine z_tupN ?_
  | with_reducible refine z_lstN ?_
  | ((with_reducible refine' z_nt ?zl1 ?_); (case zl1 => exact Nat.le_of_ble_eq_true rfl); intro p H' hp hs he)
  | ((with_reducible refine' z_gtup ?zl1 ?zl2 ?_); (case zl1 => walk_at "up"); (case zl2 => exact rfl))
  | with_reducible refine z_bk ?_
  | with_reducible refine z_ct ?_
  | with_reducible refine z_break ?_
  | with_reducible refine z_cont ?_
  | with_reducible refine z_retN ?_
  | with_reducible refine z_nn ?_
  | with_reducible refine z_mk ?_
  | with_reducible refine z_gn ?_
  | with_reducible refine z_gcons ?_
  | with_reducible refine z_gnil ?_
  | with_reducible refine z_mt ?_
  | with_reducible refine z_mko ?_
  | with_reducible refine z_for2 ?_
  | with_reducible refine z_ownI ?_
  | ((with_reducible refine' z_lenL ?zl1 ?_); (case zl1 => walk_at "up"))
  | ((with_reducible refine' z_ixT ?zl1 ?zl2 ?_); (case zl1 => walk_at "up"); (case zl2 => exact rfl))
  | ((with_reducible refine' z_mulL ?zl1 ?zl2 ?_); (case zl1 => omega); (case zl2 => omega))
  | ((with_reducible refine' z_mulR ?zl1 ?zl2 ?_); (case zl1 => omega); (case zl2 => omega))
  | ((with_reducible refine' z_divS ?zl1 ?zl2 ?_); (case zl1 => omega); (case zl2 => omega))
  | ((with_reducible refine' z_mulW ?zl1 ?zl2 ?zl3 ?zl4 ?_); (case zl1 => omega); (case zl2 => omega); (case zl3 => omega); (case zl4 => omega))
  | ((with_reducible refine' z_divW ?zl1 ?zl2 ?_); (case zl1 => omega); (case zl2 => omega)))
local macro_rules | `(tactic| walk_at "zz") => `(tactic| repeat (walk_at "z"))
local macro_rules | `(tactic| walk_at "z") => `(tactic| ((with_reducible refine' u_mod ?zl1 ?_); (case zl1 => omega); intro r hr0 hr1 hre))
local macro_rules | `(tactic| walk_at "z") => `(tactic| ((with_reducible refine' u_cell ?zl1 ?zl2 ?_); (case zl1 => walk_at "up"); (case zl2 => omega); intro c))
local macro_rules | `(tactic| walk_at "z") => `(tactic| ((with_reducible refine' u_signed ?zl1 ?_); (case zl1 => omega); intro r hr0 hr1))
local macro_rules | `(tactic| walk_at "z") => `(tactic| with_reducible refine u_whole ?_)
local macro_rules | `(tactic| walk_at "z") => `(tactic| ((with_reducible refine' u_common ?zl1 ?_); (case zl1 => omega)))
local macro_rules | `(tactic| walk_at "z") => `(tactic| ((with_reducible refine' z_fldt ?zc1 ?zc2 ?zl1 ?zl2 ?_); (case zc1 => exact Lw.cl_Ratio (by assumption)); (case zc2 => exact Lw.na_Ratio_top (by assumption)); (case zl1 => exact rfl); (case zl2 => walk_at "up")))
local macro_rules | `(tactic| walk_at "z") => `(tactic| ((with_reducible refine' z_fldb ?zc1 ?zc2 ?zl1 ?zl2 ?_); (case zc1 => exact Lw.cl_Ratio (by assumption)); (case zc2 => exact Lw.na_Ratio_bottom (by assumption)); (case zl1 => exact rfl); (case zl2 => walk_at "up")))
local macro_rules | `(tactic| walk_at "z") => `(tactic| ((with_reducible refine' z_mtR ?zl1 ?_); (case zl1 => walk_at "up")))
local macro_rules | `(tactic| walk_at "z") => `(tactic| ((with_reducible refine' z_isR ?zl1 ?zl2 ?zl3 ?_); (case zl1 => exact Lw.in_Ratio (by assumption)); (case zl2 => exact Lw.kt_Ratio_Ratio (by assumption)); (case zl3 => walk_at "up")))

def fs_inv : F2 := fun a b H Q _ => ∃ n s : Int, a = .int n ∧ b = .int s ∧ 1 < s ∧ s < 1461501637330902918203684832716283019655932542976 ∧ Int.gcd n s = 1 ∧ ∀ r, 1 ≤ r → r < s → s ∣ n * r - 1 → Q (.int r) H
section
variable {P : Program} {w : World} {K : Frag} {mg : Str → Option Value} {base : Heap}
theorem ok_law_inverse (L : Lw K mg) {fd : FuncData} (F : FunD K "_law_inverse" "_law_inverse" (defArgs s_law_inverse) (defBody s_law_inverse) (defScope s_law_inverse) (df_law_inverse.dvs K) (df_law_inverse.kws K) (He.fAd K ("_law_inverse", none)) fd) : FnOk P w K mg base (L2N.CX P w) 2 (He.fAd K ("_law_inverse", none)) fd (["number", "base"] : List Str) (sp2 fs_inv) := by
  refine FunD.ok F sc_law_inverse len2 (fun cdv A outer s H vs Q E hr h => ?_)
  obtain ⟨a, b, rfl, h⟩ := h
  refine ⟨_, (pss_cons (ps_set (i := 2) sc_law_inverse.nd rfl (by first | exact Or.inl rfl | exact Or.inr rfl) (pe_c (c_law_mod (K := K) L) hr (by decide) (L2N.takes_of rfl rfl rfl rfl) (pa_cons (pv 0) (pa_cons (pv 1) pa_nil))))
    (pss_cons (ps_set (i := 3) sc_law_inverse.nd rfl (by first | exact Or.inl rfl | exact Or.inr rfl) (pv 1))
    (pss_cons (ps_set (i := 4) sc_law_inverse.nd rfl (by first | exact Or.inl rfl | exact Or.inr rfl) pe_int)
    (pss_cons (ps_set (i := 5) sc_law_inverse.nd rfl (by first | exact Or.inl rfl | exact Or.inr rfl) pe_int)
    (pss_cons (ps_while (passes_of rfl) (pt_cmpR o_gt (pv 2) pe_int (nomark _)) (pss_cons (ps_set (i := 6) sc_law_inverse.nd rfl (by first | exact Or.inl rfl | exact Or.inr rfl) (pe_op o_div (pv 3) (pv 2)))
    (pss_cons (ps_set (i := 7) sc_law_inverse.nd rfl (by first | exact Or.inl rfl | exact Or.inr rfl) (pe_op o_sub (pv 3) (pe_op o_mul (pv 6) (pv 2))))
    (pss_cons (ps_set (i := 8) sc_law_inverse.nd rfl (by first | exact Or.inl rfl | exact Or.inr rfl) (pe_op o_sub (pv 5) (pe_op o_mul (pv 6) (pv 4))))
    (pss_cons (ps_set (i := 3) sc_law_inverse.nd rfl (by first | exact Or.inl rfl | exact Or.inr rfl) (pv 2))
    (pss_cons (ps_set (i := 5) sc_law_inverse.nd rfl (by first | exact Or.inl rfl | exact Or.inr rfl) (pv 4))
    (pss_cons (ps_set (i := 2) sc_law_inverse.nd rfl (by first | exact Or.inl rfl | exact Or.inr rfl) (pv 7))
    (pss_one (ps_set (i := 4) sc_law_inverse.nd rfl (by first | exact Or.inl rfl | exact Or.inr rfl) (pv 8))))))))))
    (pss_one (ps_ret (pe_c (c_law_mod (K := K) L) hr (by decide) (L2N.takes_of rfl rfl rfl rfl) (pa_cons (pv 4) (pa_cons (pv 1) pa_nil)))))))))), ?_⟩
  obtain ⟨n, s, rfl, rfl, h1, h2, g, k⟩ := h
  walk_at "zz"
  rename_i one o0 o1 oe
  refine ⟨fun m σ' H' => ∃ (u v x y : Int) (p q r : Option V), σ' = [some (.int n), some (.int s), some (.int u), some (.int v), some (.int x), some (.int y), p, q, r] ∧ H' = H ∧ m = u.toNat ∧ S1.Iv n s u v x y, ⟨_, _, _, _, _, _, _, _, rfl, rfl, rfl, oe ▸ S1.iv_start h1 g⟩, ?_⟩
  rintro m σ' H' ⟨u, v, x, y, p, q, r, rfl, rfl, rfl, I⟩
  have iz := S1.iv_sizes I
  have i1 := I.o1
  have i2 := I.t1
  have i3 := I.t2
  walk_at "zz"
  refine z_d2 (fun c => ?_) (fun c => ?_)
  · refine ⟨_, fun _ _ h => h, ?_⟩
    have d1 : 0 ≤ v / u := Int.ediv_nonneg (by omega) (by omega)
    have d2 : v / u ≤ v := Int.ediv_le_self _ (by omega)
    walk_at "zz"
    obtain ⟨I2, lt2⟩ := S1.iv_step I c
    exact ⟨_, (by omega), _, _, _, _, _, _, _, rfl, rfl, rfl, I2⟩
  · walk_at "zz"
    rename_i r2 r0 r1 re
    obtain ⟨e1, e2, e3⟩ := S1.iv_end h1 I c
    rw [re] at e1 e2 e3
    exact k _ e1 e2 e3
theorem c_law_inverse (L : Lw K mg) : Cal P w K mg base 2 "_law_inverse" (sp2 fs_inv) [] := by
  obtain ⟨fd, F⟩ := L.d_law_inverse
  exact ⟨⟨_, fd, ["number", "base"], [], ok_law_inverse L F, L.g_law_inverse, F.kp, F.bindsN (fun _ _ _ _ _ _ us hl => match us, hl with | [_, _], _ => rfl), .nil⟩⟩
end
def fs_nei : F3 := fun a b c H Q _ => ∃ (t s : Int) (e : Addr) (lt lb ht hb : Int), a = .int t ∧ b = .int s ∧ c = .ref e ∧ IsE H e lt lb ht hb ∧ EOk lt lb ht hb ∧ 1 < s ∧ s ≤ 1208925819614629174706176 ∧ -1461501637330902918203684832716283019655932542976 ≤ t ∧ t ≤ 1461501637330902918203684832716283019655932542976 ∧ S1.Best lt lb ht hb t s ∧ Q (.bl true) H
theorem u_inv {n s : Int} {H : Hp} {Q : VK} {E : XK} (h1 : 1 < s) (h2 : s < 1461501637330902918203684832716283019655932542976) (g : Int.gcd n s = 1) (k : ∀ r, 1 ≤ r → r < s → s ∣ n * r - 1 → Q (.int r) H) : sp2 fs_inv [.int n, .int s] H Q E := ⟨_, _, rfl, n, s, rfl, rfl, h1, h2, g, k⟩
section
variable {P : Program} {w : World} {K : Frag} {mg : Str → Option Value} {base : Heap}
theorem ok_law_neighbours (L : Lw K mg) {fd : FuncData} (F : FunD K "_law_neighbours" "_law_neighbours" (defArgs s_law_neighbours) (defBody s_law_neighbours) (defScope s_law_neighbours) (df_law_neighbours.dvs K) (df_law_neighbours.kws K) (He.fAd K ("_law_neighbours", none)) fd) : FnOk P w K mg base (L2N.CX P w) 3 (He.fAd K ("_law_neighbours", none)) fd (["top", "bottom", "ends"] : List Str) (sp3 fs_nei) := by
  refine FunD.ok F sc_law_neighbours len3 (fun cdv A outer s H vs Q E hr h => ?_)
  obtain ⟨a, b, c, rfl, h⟩ := h
  refine ⟨_, (pss_cons (ps_set (i := 3) sc_law_neighbours.nd rfl (by first | exact Or.inl rfl | exact Or.inr rfl) (pe_ix ix_seq (pv 2) pe_int (fun _ _ => rfl)))
    (pss_cons (ps_set (i := 4) sc_law_neighbours.nd rfl (by first | exact Or.inl rfl | exact Or.inr rfl) (pe_ix ix_seq (pv 2) pe_int (fun _ _ => rfl)))
    (pss_cons (ps_set (i := 5) sc_law_neighbours.nd rfl (by first | exact Or.inl rfl | exact Or.inr rfl) (pe_c (c_law_inverse (K := K) L) hr (by decide) (L2N.takes_of rfl rfl rfl rfl) (pa_cons (pv 0) (pa_cons (pv 1) pa_nil))))
    (pss_cons (ps_set (i := 6) sc_law_neighbours.nd rfl (by first | exact Or.inl rfl | exact Or.inr rfl) (pe_op o_div (pe_op o_sub (pe_op o_mul (pv 0) (pv 5)) pe_int) (pv 1)))
    (pss_cons (ps_if (pt_cmpR op_ne (pe_op o_sub (pe_op o_mul (pv 0) (pv 5)) (pe_op o_mul (pv 6) (pv 1))) pe_int (nomark _)) (pss_one (ps_ret pe_bl)) pss_nil)
    (pss_cons (ps_if (pt_cmpR o_ge (pe_op o_mul (pv 6) (pe_ix ix_seq (pv 3) pe_int (fun _ _ => rfl))) (pe_op o_mul (pe_ix ix_seq (pv 3) pe_int (fun _ _ => rfl)) (pv 5)) (nomark _)) (pss_one (ps_ret pe_bl)) pss_nil)
    (pss_one (ps_ret (pe_cmpR o_lt (pe_op o_mul (pe_ix ix_seq (pv 4) pe_int (fun _ _ => rfl)) (pe_op o_sub (pv 1) (pv 5))) (pe_op o_mul (pe_op o_sub (pv 0) (pv 6)) (pe_ix ix_seq (pv 4) pe_int (fun _ _ => rfl))) (nomark _)))))))))), ?_⟩
  obtain ⟨t, s, e, lt, lb, ht, hb, rfl, rfl, rfl, ⟨x, y, h1, h2, h3⟩, ⟨b1, b2, c1, c2, l1, l2, g1, g2⟩, s1, s2, t1, t2, m, k⟩ := h
  walk_at "zz"
  refine u_inv s1 (by omega) m.g (fun u u1 u2 ud => ?_)
  walk_at "zz"
  have ee : t * u - (t * u - 1) / s * s = 1 := by
    have := Int.ediv_mul_cancel ud
    omega
  generalize (t * u - 1) / s = o at *
  have os := S1.neigh_size (by omega) (by omega) u2 ee
  obtain ⟨n1, n2⟩ := S1.neigh b1 b2 m u1 u2 ee
  walk_at "zz"
  refine z_dT ee ?_
  walk_at "zz"
  refine z_dF (by omega) ?_
  walk_at "zz"
  rw [decide_eq_true n2]
  exact k
theorem c_law_neighbours (L : Lw K mg) : Cal P w K mg base 3 "_law_neighbours" (sp3 fs_nei) [] := by
  obtain ⟨fd, F⟩ := L.d_law_neighbours
  exact ⟨⟨_, fd, ["top", "bottom", "ends"], [], ok_law_neighbours L F, L.g_law_neighbours, F.kp, F.bindsN (fun _ _ _ _ _ _ us hl => match us, hl with | [_, _, _], _ => rfl), .nil⟩⟩
end
def fs_is (K : Frag) : F2 := fun a b H Q _ => ∃ (p d : Addr) (t u x y : Int), a = .ref p ∧ b = .ref d ∧ IsR K H p t u ∧ H d = some (.tup [.int x, .int y]) ∧ 0 < y ∧ y < 1606938044258990275541962092341162602522202993782792835301376 ∧ ∀ r : Bool, (r = true ↔ t = rt x y ∧ u = rb x y) → Q (.bl r) H
theorem u_is {K : Frag} {p d : Addr} {t u x y : Int} {H : Hp} {Q : VK} {E : XK} (h : IsR K H p t u) (hd : H d = some (.tup [.int x, .int y])) (h1 : 0 < y) (h2 : y < 1606938044258990275541962092341162602522202993782792835301376) (k : ∀ r : Bool, (r = true ↔ t = rt x y ∧ u = rb x y) → Q (.bl r) H) : sp2 (fs_is K) [.ref p, .ref d] H Q E := ⟨_, _, rfl, p, d, t, u, x, y, rfl, rfl, h, hd, h1, h2, k⟩
section
variable {P : Program} {w : World} {K : Frag} {mg : Str → Option Value} {base : Heap}
theorem ok_law_is (L : Lw K mg) {fd : FuncData} (F : FunD K "_law_is" "_law_is" (defArgs s_law_is) (defBody s_law_is) (defScope s_law_is) (df_law_is.dvs K) (df_law_is.kws K) (He.fAd K ("_law_is", none)) fd) : FnOk P w K mg base (L2N.CX P w) 3 (He.fAd K ("_law_is", none)) fd (["actual", "due"] : List Str) (sp2 (fs_is K)) := by
  refine FunD.ok F sc_law_is len2 (fun cdv A outer s H vs Q E hr h => ?_)
  obtain ⟨a, b, rfl, h⟩ := h
  refine ⟨_, (pss_cons (ps_if (pt_not (pt_val (pe_callB call_isi (by rfl) L.f_isinstance (by decide +kernel) (pa_cons (pv 0) (pa_cons (pe_cls L.g_Ratio) pa_nil))))) (pss_one (ps_ret pe_bl)) pss_nil)
    (pss_cons (ps_set (i := 2) sc_law_is.nd rfl (by first | exact Or.inl rfl | exact Or.inr rfl) (pe_c (c_law_common (K := K) L) hr (by decide) (L2N.takes_of rfl rfl rfl rfl) (pa_cons (pe_ix ix_seq (pv 1) pe_int (fun _ _ => rfl)) (pa_cons (pe_ix ix_seq (pv 1) pe_int (fun _ _ => rfl)) pa_nil))))
    (pss_cons (ps_if (pt_not (pt_val (pe_c (c_law_whole (K := K) L) hr (by decide) (L2N.takes_of rfl rfl rfl rfl) (pa_cons (pe_fld (pv 0) rfl) (pa_cons (pe_op o_div (pe_ix ix_seq (pv 1) pe_int (fun _ _ => rfl)) (pv 2)) pa_nil))))) (pss_one (ps_ret pe_bl)) pss_nil)
    (pss_one (ps_ret (pe_c (c_law_whole (K := K) L) hr (by decide) (L2N.takes_of rfl rfl rfl rfl) (pa_cons (pe_fld (pv 0) rfl) (pa_cons (pe_op o_div (pe_ix ix_seq (pv 1) pe_int (fun _ _ => rfl)) (pv 2)) pa_nil)))))))), ?_⟩
  obtain ⟨p, d, t, u, x, y, rfl, rfl, hr', hd, y0, y1, k⟩ := h
  obtain ⟨e1, e2⟩ := rt_pos (n := x) y0
  rw [e1, e2] at k
  have g0 : 0 < Int.gcd x y := Int.gcd_pos_of_ne_zero_right x (by omega)
  have g1 : Int.gcd x y ≤ y.natAbs := Nat.le_of_dvd (by omega) (by
    show Nat.gcd x.natAbs y.natAbs ∣ y.natAbs
    exact Nat.gcd_dvd_right _ _)
  walk_at "zz"
  refine z_d2 (fun c => ?_) (fun c => ?_)
  · walk_at "zz"
    refine k _ ?_
    rw [decide_eq_true_iff]
    exact ⟨fun z => ⟨c, z⟩, fun z => z.2⟩
  · walk_at "zz"
    exact k _ ⟨(fun z => nomatch z), fun z => absurd z.1 c⟩
theorem c_law_is (L : Lw K mg) : Cal P w K mg base 3 "_law_is" (sp2 (fs_is K)) [] := by
  obtain ⟨fd, F⟩ := L.d_law_is
  exact ⟨⟨_, fd, ["actual", "due"], [], ok_law_is L F, L.g_law_is, F.kp, F.bindsN (fun _ _ _ _ _ _ us hl => match us, hl with | [_, _], _ => rfl), .nil⟩⟩
theorem ch_law_is (L : Lw K mg) : CalH P w K mg base 3 "_law_is" (sp2 (fs_is K)) := by
  obtain ⟨fd, F⟩ := L.d_law_is
  refine ⟨_, fd, ["actual", "due"], okH F sc_law_is len2 (fun cdv A outer s H vs Q E p hot1 hrH h => ?_), L.g_law_is, F.kp, F.bindsN (fun _ _ _ _ _ _ us hl => match us, hl with | [_, _], _ => rfl)⟩
  obtain ⟨a, b, rfl, h⟩ := h
  refine ⟨_, (pss_cons (ps_if (pt_not (pt_val (pe_callB call_isi (by rfl) L.f_isinstance (by decide +kernel) (pa_cons (pv 0) (pa_cons (pe_cls L.g_Ratio) pa_nil))))) (pss_one (ps_ret pe_bl)) pss_nil)
    (pss_cons (ps_set (i := 2) sc_law_is.nd rfl (by first | exact Or.inl rfl | exact Or.inr rfl) (pe_ch (ch_law_common (K := K) L) hrH (by decide) (hot_in hot1) (pa_cons (pe_ix ix_seq (pv 1) pe_int (fun _ _ => rfl)) (pa_cons (pe_ix ix_seq (pv 1) pe_int (fun _ _ => rfl)) pa_nil))))
    (pss_cons (ps_if (pt_not (pt_val (pe_ch (ch_law_whole (K := K) L) hrH (by decide) (hot_in hot1) (pa_cons (pe_fld (pv 0) rfl) (pa_cons (pe_op o_div (pe_ix ix_seq (pv 1) pe_int (fun _ _ => rfl)) (pv 2)) pa_nil))))) (pss_one (ps_ret pe_bl)) pss_nil)
    (pss_one (ps_ret (pe_ch (ch_law_whole (K := K) L) hrH (by decide) (hot_in hot1) (pa_cons (pe_fld (pv 0) rfl) (pa_cons (pe_op o_div (pe_ix ix_seq (pv 1) pe_int (fun _ _ => rfl)) (pv 2)) pa_nil)))))))), ?_⟩
  obtain ⟨p, d, t, u, x, y, rfl, rfl, hr', hd, y0, y1, k⟩ := h
  obtain ⟨e1, e2⟩ := rt_pos (n := x) y0
  rw [e1, e2] at k
  have g0 : 0 < Int.gcd x y := Int.gcd_pos_of_ne_zero_right x (by omega)
  have g1 : Int.gcd x y ≤ y.natAbs := Nat.le_of_dvd (by omega) (by
    show Nat.gcd x.natAbs y.natAbs ∣ y.natAbs
    exact Nat.gcd_dvd_right _ _)
  walk_at "zz"
  refine z_d2 (fun c => ?_) (fun c => ?_)
  · walk_at "zz"
    refine k _ ?_
    rw [decide_eq_true_iff]
    exact ⟨fun z => ⟨c, z⟩, fun z => z.2⟩
  · walk_at "zz"
    exact k _ ⟨(fun z => nomatch z), fun z => absurd z.1 c⟩
end
end T

set_option maxHeartbeats 4000000
namespace T
open PySem PySem.Spec PyProof.Rows L2 Z
/-! the readings' steps, as one word: walk_at "z" (one step), "zz" (as far as it goes), "up" (a fact carried here) -/
local macro_rules | `(tactic| walk_at "up") => `(tactic| first
  | assumption
  | (refine' IsR.mono (by assumption) ?zup; case zup => walk_at "up")
  | (refine' IsE.mono (by assumption) ?zup; case zup => walk_at "up")
  | (refine' Same.at (by assumption) ?zup; case zup => walk_at "up")
  | (refine' SqL.of ?zup; case zup => walk_at "up")
  | (refine' L2.Same.seq (by assumption) ?zup; case zup => walk_at "up"))
local macro_rules | `(tactic| walk_at "z") => `(tactic| first
  | ((with_reducible refine' z_var ?zvh ?_); (case zvh => exact rfl))
  | with_reducible refine z_c ?_
  | with_reducible refine z_cons ?_
  | with_reducible refine z_nil ?_
  | with_reducible refine z_op ?_
  | with_reducible refine z_nx ?_
  | with_reducible refine z_seq ?_
  | with_reducible refine z_asg ?_
  | with_reducible refine z_asgG ?_
  | with_reducible refine z_call ?_
  | with_reducible refine z_sq0 ?_
  | with_reducible refine z_sq1 ?_
  | with_reducible refine z_ifS ?_
  | with_reducible refine z_test ?_
  | with_reducible refine z_tb ?_
  | with_reducible refine z_bl ?_
  | with_reducible refine z_blI ?_
  | with_reducible refine z_ret ?_
  | with_reducible refine z_rt ?_
  | with_reducible refine z_T ?_
  | with_reducible refine z_F ?_
  | with_reducible refine z_add ?_
  | with_reducible refine z_sub ?_
  | with_reducible refine z_neg ?_
  | with_reducible refine z_un ?_
  | with_reducible refine z_eqI ?_
  | with_reducible refine z_neI ?_
  | with_reducible refine z_lt ?_
  | with_reducible refine z_le ?_
  | with_reducible refine z_gt ?_
  | with_reducible refine z_ge ?_
  | with_reducible refine z_not ?_
  | with_reducible refine z_and ?_
  | with_reducible refine z_or ?_
  | with_reducible refine z_andV ?_
  | with_reducible refine z_orV ?_
  | with_reducible refine z_notV ?_
  | with_reducible refine z_if ?_
  | with_reducible refine z_cb ?_
  | with_reducible refine z_int1 ?_
  | with_reducible refine z_intb ?_
  | with_reducible refine z_abs ?_
  | with_reducible refine z_gcd ?_
  | with_reducible refine z_isi_ii ?_
  | with_reducible refine z_isi_ib ?_
  | with_reducible refine z_next ?_
  | with_reducible refine z_drop ?_
  | with_reducible refine z_par ?_
  | with_reducible refine z_par2 ?_
  | with_reducible refine z_tupN ?_
  | with_reducible refine z_lstN ?_
  | ((with_reducible refine' z_nt ?zl1 ?_); (case zl1 => exact Nat.le_of_ble_eq_true rfl); intro p H' hp hs he)
  | ((with_reducible refine' z_gtup ?zl1 ?zl2 ?_); (case zl1 => walk_at "up"); (case zl2 => exact rfl))
  | with_reducible refine z_bk ?_
  | with_reducible refine z_ct ?_
  | with_reducible refine z_break ?_
  | with_reducible refine z_cont ?_
  | with_reducible refine z_retN ?_
  | with_reducible refine z_nn ?_
  | with_reducible refine z_mk ?_
  | with_reducible refine z_gn ?_
  | with_reducible refine z_gcons ?_
  | with_reducible refine z_gnil ?_
  | with_reducible refine z_mt ?_
  | with_reducible refine z_mko ?_
  | with_reducible refine z_for2 ?_
  | with_reducible refine z_ownI ?_
  | ((with_reducible refine' z_lenL ?zl1 ?_); (case zl1 => walk_at "up"))
  | ((with_reducible refine' z_ixT ?zl1 ?zl2 ?_); (case zl1 => walk_at "up"); (case zl2 => exact rfl))
  | ((with_reducible refine' z_mulL ?zl1 ?zl2 ?_); (case zl1 => omega); (case zl2 => omega))
  | ((with_reducible refine' z_mulR ?zl1 ?zl2 ?_); (case zl1 => omega); (case zl2 => omega))
  | ((with_reducible refine' z_divS ?zl1 ?zl2 ?_); (case zl1 => omega); (case zl2 => omega))
  | ((with_reducible refine' z_mulW ?zl1 ?zl2 ?zl3 ?zl4 ?_); (case zl1 => omega); (case zl2 => omega); (case zl3 => omega); (case zl4 => omega))
  | ((with_reducible refine' z_divW ?zl1 ?zl2 ?_); (case zl1 => omega); (case zl2 => omega)))
local macro_rules | `(tactic| walk_at "zz") => `(tactic| repeat (walk_at "z"))
local macro_rules | `(tactic| walk_at "z") => `(tactic| ((with_reducible refine' u_mod ?zl1 ?_); (case zl1 => omega); intro r hr0 hr1 hre))
local macro_rules | `(tactic| walk_at "z") => `(tactic| ((with_reducible refine' u_cell ?zl1 ?zl2 ?_); (case zl1 => walk_at "up"); (case zl2 => omega); intro c))
local macro_rules | `(tactic| walk_at "z") => `(tactic| ((with_reducible refine' u_signed ?zl1 ?_); (case zl1 => omega); intro r hr0 hr1))
local macro_rules | `(tactic| walk_at "z") => `(tactic| with_reducible refine u_whole ?_)
local macro_rules | `(tactic| walk_at "z") => `(tactic| ((with_reducible refine' u_common ?zl1 ?_); (case zl1 => omega)))
local macro_rules | `(tactic| walk_at "z") => `(tactic| ((with_reducible refine' z_fldt ?zc1 ?zc2 ?zl1 ?zl2 ?_); (case zc1 => exact Lw.cl_Ratio (by assumption)); (case zc2 => exact Lw.na_Ratio_top (by assumption)); (case zl1 => exact rfl); (case zl2 => walk_at "up")))
local macro_rules | `(tactic| walk_at "z") => `(tactic| ((with_reducible refine' z_fldb ?zc1 ?zc2 ?zl1 ?zl2 ?_); (case zc1 => exact Lw.cl_Ratio (by assumption)); (case zc2 => exact Lw.na_Ratio_bottom (by assumption)); (case zl1 => exact rfl); (case zl2 => walk_at "up")))
local macro_rules | `(tactic| walk_at "z") => `(tactic| ((with_reducible refine' z_mtR ?zl1 ?_); (case zl1 => walk_at "up")))
local macro_rules | `(tactic| walk_at "z") => `(tactic| ((with_reducible refine' z_isR ?zl1 ?zl2 ?zl3 ?_); (case zl1 => exact Lw.in_Ratio (by assumption)); (case zl2 => exact Lw.kt_Ratio_Ratio (by assumption)); (case zl3 => walk_at "up")))

def fs_best (K : Frag) : F2 := fun a b H Q _ => ∃ (p e : Addr) (t s lt lb ht hb : Int), a = .ref p ∧ b = .ref e ∧ IsR K H p t s ∧ IsE H e lt lb ht hb ∧ EOk lt lb ht hb ∧ lt * hb ≤ ht * lb ∧ S1.Best lt lb ht hb t s ∧ Q (.bl true) H
local macro_rules | `(tactic| walk_at "z") => `(tactic| ((with_reducible refine' u_btw ?zl1 ?zl2 ?zl3 ?zl4 ?zl5 ?zl6 ?_); (case zl1 => walk_at "up"); (case zl2 => assumption); (case zl3 => omega); (case zl4 => omega); (case zl5 => omega); (case zl6 => omega)))
theorem of_iff {b : Bool} {P : Prop} (h : b = true ↔ P) (p : P) : b = true := h.mpr p
theorem of_iffN {b : Bool} {P : Prop} (h : b = true ↔ P) (p : ¬ P) : b = false := by
  cases b
  · rfl
  · exact absurd (h.mp rfl) p
section
variable {P : Program} {w : World} {K : Frag} {mg : Str → Option Value} {base : Heap}
theorem ok_law_best (L : Lw K mg) {fd : FuncData} (F : FunD K "_law_best" "_law_best" (defArgs s_law_best) (defBody s_law_best) (defScope s_law_best) (df_law_best.dvs K) (df_law_best.kws K) (He.fAd K ("_law_best", none)) fd) : FnOk P w K mg base (L2N.CX P w) 4 (He.fAd K ("_law_best", none)) fd (["found", "ends"] : List Str) (sp2 (fs_best K)) := by
  refine FunD.ok F sc_law_best len2 (fun cdv A outer s H vs Q E hr h => ?_)
  obtain ⟨a, b, rfl, h⟩ := h
  refine ⟨_, (pss_cons (ps_if (pt_not (pt_val (pe_callB call_isi (by rfl) L.f_isinstance (by decide +kernel) (pa_cons (pv 0) (pa_cons (pe_cls L.g_Ratio) pa_nil))))) (pss_one (ps_ret pe_bl)) pss_nil)
    (pss_cons (ps_set (i := 2) sc_law_best.nd rfl (by first | exact Or.inl rfl | exact Or.inr rfl) (pe_fld (pv 0) rfl))
    (pss_cons (ps_set (i := 3) sc_law_best.nd rfl (by first | exact Or.inl rfl | exact Or.inr rfl) (pe_fld (pv 0) rfl))
    (pss_cons (ps_if (PW.pt (pw_or (pt_not (pt_val (pe_c (c_law_whole (K := K) L) hr (by decide) (L2N.takes_of rfl rfl rfl rfl) (pa_cons (pv 2) (pa_cons (pv 2) pa_nil))))) (pw_or (pt_not (pt_val (pe_c (c_law_whole (K := K) L) hr (by decide) (L2N.takes_of rfl rfl rfl rfl) (pa_cons (pv 3) (pa_cons (pv 3) pa_nil))))) (pw_or1 (pt_cmpR o_lt (pv 3) pe_int (nomark _)))))) (pss_one (ps_ret pe_bl)) pss_nil)
    (pss_cons (ps_if (PW.pt (pw_or (pt_cmpR op_ne (pe_c (c_law_common (K := K) L) hr (by decide) (L2N.takes_of rfl rfl rfl rfl) (pa_cons (pv 2) (pa_cons (pv 3) pa_nil))) pe_int (nomark _)) (pw_or1 (pt_not (pt_val (pe_c (c_law_between (K := K) L) hr (by decide) (L2N.takes_of rfl rfl rfl rfl) (pa_cons (pv 2) (pa_cons (pv 3) (pa_cons (pv 1) pa_nil))))))))) (pss_one (ps_ret pe_bl)) pss_nil)
    (pss_cons (ps_set (i := 4) sc_law_best.nd rfl (by first | exact Or.inl rfl | exact Or.inr rfl) (pe_op o_sub (pe_callTy o_int1 (by rfl) L.f_int (by decide +kernel) (pa_cons (pe_cmpR o_gt (pv 2) pe_int (nomark _)) pa_nil)) (pe_callTy o_int1 (by rfl) L.f_int (by decide +kernel) (pa_cons (pe_cmpR o_lt (pv 2) pe_int (nomark _)) pa_nil))))
    (pss_cons (ps_if (PW.pt (pw_and (pt_cmpR op_ne (pv 4) pe_int (nomark _)) (pw_and1 (pt_val (pe_c (c_law_between (K := K) L) hr (by decide) (L2N.takes_of rfl rfl rfl rfl) (pa_cons (pe_op o_sub (pv 2) (pv 4)) (pa_cons (pv 3) (pa_cons (pv 1) pa_nil)))))))) (pss_one (ps_ret pe_bl)) pss_nil)
    (pss_cons (ps_if (pt_cmpR o_le (pv 3) pe_int (nomark _)) (pss_one (ps_ret (pe_c (c_law_none_lesser (K := K) L) hr (by decide) (L2N.takes_of rfl rfl rfl rfl) (pa_cons (pv 3) (pa_cons (pv 1) pa_nil))))) pss_nil)
    (pss_one (ps_ret (pe_c (c_law_neighbours (K := K) L) hr (by decide) (L2N.takes_of rfl rfl rfl rfl) (pa_cons (pv 2) (pa_cons (pv 3) (pa_cons (pv 1) pa_nil)))))))))))))), ?_⟩
  obtain ⟨p, e, t, s, lt, lb, ht, hb, rfl, rfl, hr', hE, ok, ho, m, k⟩ := h
  obtain ⟨b1, b2, c1, c2, l1, l2, g1, g2⟩ := id ok
  obtain ⟨z1, z2, z3⟩ := S1.best_size (B := 1208925819614629174706176) b1 b2 ho l1 g2 c1 (by decide) m
  have s1 := m.b1
  have bB : (1208925819614629174706176 : Int) * 1208925819614629174706176 = 1461501637330902918203684832716283019655932542976 := by decide
  rw [bB] at z2 z3
  walk_at "zz"
  refine z_dT rfl ?_
  walk_at "zz"
  refine z_dT rfl ?_
  walk_at "zz"
  refine z_dF (by omega) ?_
  walk_at "zz"
  refine z_dT (by rw [m.g]; rfl) ?_
  walk_at "zz"
  intro r hr2
  rw [of_iff hr2 m.btw]
  walk_at "zz"
  have st : ∀ z : Int, z = (if decide (0 < t) = true then (1 : Int) else 0) - (if decide (t < 0) = true then 1 else 0) → -1 ≤ z ∧ z ≤ 1 ∧ (z ≠ 0 → ¬ S1.Btw lt lb ht hb (t - z) s) := by
    intro z hz
    by_cases q1 : 0 < t
    · have q2 : ¬ t < 0 := by omega
      rw [decide_eq_true q1, decide_eq_false q2, if_pos rfl, if_neg Bool.false_ne_true] at hz
      refine ⟨by omega, by omega, fun _ => ?_⟩
      have : z = 1 := by omega
      rw [this]
      exact m.near1 q1
    · by_cases q2 : t < 0
      · rw [decide_eq_true q2, decide_eq_false q1, if_pos rfl, if_neg Bool.false_ne_true] at hz
        refine ⟨by omega, by omega, fun _ => ?_⟩
        have : z = -1 := by omega
        rw [this, Int.sub_neg]
        exact m.near2 q2
      · rw [decide_eq_false q2, decide_eq_false q1, if_neg Bool.false_ne_true] at hz
        exact ⟨by omega, by omega, fun z0 => absurd hz z0⟩
  obtain ⟨st1, st2, st3⟩ := st _ rfl
  generalize (if decide (0 < t) = true then (1 : Int) else 0) - (if decide (t < 0) = true then 1 else 0) = z at *
  refine z_d2 (fun c => ?_) (fun c => ?_)
  · walk_at "zz"
    refine z_d2 (fun c2 => ?_) (fun c2 => ?_)
    · walk_at "zz"
      exact ⟨_, _, rfl, s, e, lt, lb, ht, hb, rfl, rfl, hE, ok, s1, c2, m.lesser, k⟩
    · walk_at "zz"
      exact ⟨_, _, _, rfl, t, s, e, lt, lb, ht, hb, rfl, rfl, rfl, hE, ok, by omega, by omega, z2, z3, m, k⟩
  · walk_at "zz"
    intro r hr3
    rw [of_iffN hr3 (st3 c)]
    walk_at "zz"
    refine z_d2 (fun c2 => ?_) (fun c2 => ?_)
    · walk_at "zz"
      exact ⟨_, _, rfl, s, e, lt, lb, ht, hb, rfl, rfl, hE, ok, s1, c2, m.lesser, k⟩
    · walk_at "zz"
      exact ⟨_, _, _, rfl, t, s, e, lt, lb, ht, hb, rfl, rfl, rfl, hE, ok, by omega, by omega, z2, z3, m, k⟩
theorem c_law_best (L : Lw K mg) : Cal P w K mg base 4 "_law_best" (sp2 (fs_best K)) [] := by
  obtain ⟨fd, F⟩ := L.d_law_best
  exact ⟨⟨_, fd, ["found", "ends"], [], ok_law_best L F, L.g_law_best, F.kp, F.bindsN (fun _ _ _ _ _ _ us hl => match us, hl with | [_, _], _ => rfl), .nil⟩⟩
end
end T

set_option maxHeartbeats 4000000
namespace T
open PySem PySem.Spec PyProof.Rows L2 Z
/-! the readings' steps, as one word: walk_at "z" (one step), "zz" (as far as it goes), "up" (a fact carried here) -/
local macro_rules | `(tactic| walk_at "up") => `(tactic| first
  | assumption
  | (refine' IsR.mono (by assumption) ?zup; case zup => walk_at "up")
  | (refine' IsE.mono (by assumption) ?zup; case zup => walk_at "up")
  | (refine' Same.at (by assumption) ?zup; case zup => walk_at "up")
  | (refine' SqL.of ?zup; case zup => walk_at "up")
  | (refine' L2.Same.seq (by assumption) ?zup; case zup => walk_at "up"))
local macro_rules | `(tactic| walk_at "z") => `(tactic| first
  | ((with_reducible refine' z_var ?zvh ?_); (case zvh => exact rfl))
  | with_reducible refine z_c ?_
  | with_reducible refine z_cons ?_
  | with_reducible refine z_nil ?_
  | with_reducible refine z_op ?_
  | with_reducible refine z_nx ?_
  | with_reducible refine z_seq ?_
  | with_reducible refine z_asg ?_
  | with_reducible refine z_asgG ?_
  | with_reducible refine z_call ?_
  | with_reducible refine z_sq0 ?_
  | with_reducible refine z_sq1 ?_
  | with_reducible refine z_ifS ?_
  | with_reducible refine z_test ?_
  | with_reducible refine z_tb ?_
  | with_reducible refine z_bl ?_
  | with_reducible refine z_blI ?_
  | with_reducible refine z_ret ?_
  | with_reducible refine z_rt ?_
  | with_reducible refine z_T ?_
  | with_reducible refine z_F ?_
  | with_reducible refine z_add ?_
  | with_reducible refine z_sub ?_
  | with_reducible refine z_neg ?_
  | with_reducible refine z_un ?_
  | with_reducible refine z_eqI ?_
  | with_reducible refine z_neI ?_
  | with_reducible refine z_lt ?_
  | with_reducible refine z_le ?_
  | with_reducible refine z_gt ?_
  | with_reducible refine z_ge ?_
  | with_reducible refine z_not ?_
  | with_reducible refine z_and ?_
  | with_reducible refine z_or ?_
  | with_reducible refine z_andV ?_
  | with_reducible refine z_orV ?_
  | with_reducible refine z_notV ?_
  | with_reducible refine z_if ?_
  | with_reducible refine z_cb ?_
  | with_reducible refine z_int1 ?_
  | with_reducible refine z_intb ?_
  | with_reducible refine z_abs ?_
  | with_reducible refine z_gcd ?_
  | with_reducible refine z_isi_ii ?_
  | with_reducible refine z_isi_ib ?_
  | with_reducible refine z_next ?_
  | with_reducible refine z_drop ?_
  | with_reducible refine z_par ?_
  | with_reducible refine z_par2 ?_
  | with_reducible refine z_tupN ?_
  | with_reducible refine z_lstN ?_
  | ((with_reducible refine' z_nt ?zl1 ?_); (case zl1 => exact Nat.le_of_ble_eq_true rfl); intro p H' hp hs he)
  | ((with_reducible refine' z_gtup ?zl1 ?zl2 ?_); (case zl1 => walk_at "up"); (case zl2 => exact rfl))
  | with_reducible refine z_bk ?_
  | with_reducible refine z_ct ?_
  | with_reducible refine z_break ?_
  | with_reducible refine z_cont ?_
  | with_reducible refine z_retN ?_
  | with_reducible refine z_nn ?_
  | with_reducible refine z_mk ?_
  | with_reducible refine z_gn ?_
  | with_reducible refine z_gcons ?_
  | with_reducible refine z_gnil ?_
  | with_reducible refine z_mt ?_
  | with_reducible refine z_mko ?_
  | with_reducible refine z_for2 ?_
  | with_reducible refine z_ownI ?_
  | ((with_reducible refine' z_lenL ?zl1 ?_); (case zl1 => walk_at "up"))
  | ((with_reducible refine' z_ixT ?zl1 ?zl2 ?_); (case zl1 => walk_at "up"); (case zl2 => exact rfl))
  | ((with_reducible refine' z_mulL ?zl1 ?zl2 ?_); (case zl1 => omega); (case zl2 => omega))
  | ((with_reducible refine' z_mulR ?zl1 ?zl2 ?_); (case zl1 => omega); (case zl2 => omega))
  | ((with_reducible refine' z_divS ?zl1 ?zl2 ?_); (case zl1 => omega); (case zl2 => omega))
  | ((with_reducible refine' z_mulW ?zl1 ?zl2 ?zl3 ?zl4 ?_); (case zl1 => omega); (case zl2 => omega); (case zl3 => omega); (case zl4 => omega))
  | ((with_reducible refine' z_divW ?zl1 ?zl2 ?_); (case zl1 => omega); (case zl2 => omega)))
local macro_rules | `(tactic| walk_at "zz") => `(tactic| repeat (walk_at "z"))
local macro_rules | `(tactic| walk_at "z") => `(tactic| ((with_reducible refine' u_mod ?zl1 ?_); (case zl1 => omega); intro r hr0 hr1 hre))
local macro_rules | `(tactic| walk_at "z") => `(tactic| ((with_reducible refine' u_cell ?zl1 ?zl2 ?_); (case zl1 => walk_at "up"); (case zl2 => omega); intro c))
local macro_rules | `(tactic| walk_at "z") => `(tactic| ((with_reducible refine' u_signed ?zl1 ?_); (case zl1 => omega); intro r hr0 hr1))
local macro_rules | `(tactic| walk_at "z") => `(tactic| with_reducible refine u_whole ?_)
local macro_rules | `(tactic| walk_at "z") => `(tactic| ((with_reducible refine' u_common ?zl1 ?_); (case zl1 => omega)))
local macro_rules | `(tactic| walk_at "z") => `(tactic| ((with_reducible refine' z_fldt ?zc1 ?zc2 ?zl1 ?zl2 ?_); (case zc1 => exact Lw.cl_Ratio (by assumption)); (case zc2 => exact Lw.na_Ratio_top (by assumption)); (case zl1 => exact rfl); (case zl2 => walk_at "up")))
local macro_rules | `(tactic| walk_at "z") => `(tactic| ((with_reducible refine' z_fldb ?zc1 ?zc2 ?zl1 ?zl2 ?_); (case zc1 => exact Lw.cl_Ratio (by assumption)); (case zc2 => exact Lw.na_Ratio_bottom (by assumption)); (case zl1 => exact rfl); (case zl2 => walk_at "up")))
local macro_rules | `(tactic| walk_at "z") => `(tactic| ((with_reducible refine' z_mtR ?zl1 ?_); (case zl1 => walk_at "up")))
local macro_rules | `(tactic| walk_at "z") => `(tactic| ((with_reducible refine' z_isR ?zl1 ?zl2 ?zl3 ?_); (case zl1 => exact Lw.in_Ratio (by assumption)); (case zl2 => exact Lw.kt_Ratio_Ratio (by assumption)); (case zl3 => walk_at "up")))

theorem cmp_pos {x y : Int} : 0 < cmpI x y ↔ y < x := by unfold cmpI; split <;> (try split) <;> omega
theorem cmp_neg {x y : Int} : cmpI x y < 0 ↔ x < y := by unfold cmpI; split <;> (try split) <;> omega
theorem cmp_le {x y : Int} : cmpI x y ≤ 0 ↔ x ≤ y := by unfold cmpI; split <;> (try split) <;> omega
theorem cmp_ge {x y : Int} : 0 ≤ cmpI x y ↔ y ≤ x := by unfold cmpI; split <;> (try split) <;> omega
section
variable {K : Frag} {H : Hp} {Q : VK} {E : XK} {p r : Addr} {t u t' u' : Int}
theorem u_cmp (h1 : IsR K H p t u) (h2 : IsR K H r t' u') (a1 : -1606938044258990275541962092341162602522202993782792835301376 < t) (a2 : t < 1606938044258990275541962092341162602522202993782792835301376) (a3 : -1606938044258990275541962092341162602522202993782792835301376 < u) (a4 : u < 1606938044258990275541962092341162602522202993782792835301376) (a5 : -1606938044258990275541962092341162602522202993782792835301376 < t') (a6 : t' < 1606938044258990275541962092341162602522202993782792835301376) (a7 : -1606938044258990275541962092341162602522202993782792835301376 < u') (a8 : u' < 1606938044258990275541962092341162602522202993782792835301376) (q : Q (.int (cmpI (t * u') (t' * u))) H) : sp2 (fs_rcmp K) [.ref p, .ref r] H Q E :=
  ⟨_, _, rfl, p, r, t, u, t', u', rfl, rfl, h1, h2, mulW_ok a1 a2 a7 a8, mulW_ok a5 a6 a3 a4, q⟩
theorem u_sign (h1 : IsR K H p t u) (q : Q (.int (cmpI t 0)) H) : sp1 (fs_rsign K) [.ref p] H Q E := ⟨_, rfl, p, t, u, rfl, h1, q⟩
/-- the negative of one in lowest terms -/
theorem u_neg (h1 : IsR K H p t u) (g : Int.gcd t u = 1) (u1 : 0 < u) (u2 : u < 1606938044258990275541962092341162602522202993782792835301376) (k : ∀ r H', Same H H' → IsR K H' r (-t) u → Q (.ref r) H') : sp1 (fs_rneg K) [.ref p] H Q E :=
  ⟨_, rfl, p, t, u, rfl, h1, by omega, by omega, u2, fun r H' s hr => k r H' s (by
    obtain ⟨e1, e2⟩ := rt_low (n := -t) (d := u) u1 (by rw [Int.neg_gcd]; exact g)
    rw [e1, e2] at hr
    exact hr)⟩
end
/-- the parts of two Ratios -/
structure SOk (lt lb ht hb : Int) : Prop where
  b1 : 1 ≤ lb
  b2 : 1 ≤ hb
  c1 : lb ≤ 1461501637330902918203684832716283019655932542976
  c2 : hb ≤ 1461501637330902918203684832716283019655932542976
  l1 : -1461501637330902918203684832716283019655932542976 ≤ lt
  l2 : lt ≤ 1461501637330902918203684832716283019655932542976
  h1 : -1461501637330902918203684832716283019655932542976 ≤ ht
  h2 : ht ≤ 1461501637330902918203684832716283019655932542976
  k1 : Int.gcd lt lb = 1
  k2 : Int.gcd ht hb = 1
theorem ceil_bd {a b : Int} (ha : 1 ≤ a) (hb : 1 ≤ b) : 0 ≤ S1.ceil a b ∧ S1.ceil a b ≤ a := by
  have h1 : S1.ceil a b ≤ a := (S1.ceil_le (by omega)).mpr (by
    have := Int.mul_le_mul_of_nonneg_left hb (show 0 ≤ a by omega)
    omega)
  have h2 : ¬ S1.ceil a b ≤ -1 := fun z => by
    have := (S1.ceil_le (show 0 < b by omega)).mp z
    omega
  omega
def fs_above (K : Frag) : F2 := fun a b H Q _ => ∃ (p r : Addr) (lt lb ht hb : Int), a = .ref p ∧ b = .ref r ∧ IsR K H p lt lb ∧ IsR K H r ht hb ∧ SOk lt lb ht hb ∧ 1 ≤ lt ∧ lt * hb ≤ ht * lb ∧
  ∀ q H' t s, Same H H' → IsR K H' q t s → S1.Best lt lb ht hb t s → Q (.ref q) H'
section
variable {P : Program} {w : World} {K : Frag} {mg : Str → Option Value} {base : Heap}
theorem ok_simplest_above (L : Lw K mg) {fd : FuncData} (F : FunD K "simplest_above" "simplest_above" (defArgs s_simplest_above) (defBody s_simplest_above) (defScope s_simplest_above) (df_simplest_above.dvs K) (df_simplest_above.kws K) (He.fAd K ("simplest_above", none)) fd) : FnOk P w K mg base (L2N.CX P w) 3 (He.fAd K ("simplest_above", none)) fd (["low", "high"] : List Str) (sp2 (fs_above K)) := by
  refine FunD.ok F sc_simplest_above len2 (fun cdv A outer s H vs Q E hr h => ?_)
  obtain ⟨a, b, rfl, h⟩ := h
  refine ⟨_, (pss_cons (ps_asg (pe_tup (pa_cons (pe_fld (pv 0) rfl) (pa_cons (pe_fld (pv 0) rfl) (pa_cons (pe_fld (pv 1) rfl) (pa_cons (pe_fld (pv 1) rfl) pa_nil))))) (pg_tup (by rfl) (pgs_cons (pg_name (i := 2) sc_simplest_above.nd rfl (by first | exact Or.inl rfl | exact Or.inr rfl)) (pgs_cons (pg_name (i := 3) sc_simplest_above.nd rfl (by first | exact Or.inl rfl | exact Or.inr rfl)) (pgs_cons (pg_name (i := 4) sc_simplest_above.nd rfl (by first | exact Or.inl rfl | exact Or.inr rfl)) (pgs_cons (pg_name (i := 5) sc_simplest_above.nd rfl (by first | exact Or.inl rfl | exact Or.inr rfl)) pgs_nil))))))
    (pss_cons (ps_asg (pe_tup (pa_cons pe_int (pa_cons pe_int (pa_cons pe_int (pa_cons pe_int pa_nil))))) (pg_tup (by rfl) (pgs_cons (pg_name (i := 6) sc_simplest_above.nd rfl (by first | exact Or.inl rfl | exact Or.inr rfl)) (pgs_cons (pg_name (i := 7) sc_simplest_above.nd rfl (by first | exact Or.inl rfl | exact Or.inr rfl)) (pgs_cons (pg_name (i := 8) sc_simplest_above.nd rfl (by first | exact Or.inl rfl | exact Or.inr rfl)) (pgs_cons (pg_name (i := 9) sc_simplest_above.nd rfl (by first | exact Or.inl rfl | exact Or.inr rfl)) pgs_nil))))))
    (pss_cons (ps_set (i := 10) sc_simplest_above.nd rfl (by first | exact Or.inl rfl | exact Or.inr rfl) (pe_un o_neg (pe_op o_div (pe_un o_neg (pv 2)) (pv 3))))
    (pss_cons (ps_while (passes_of rfl) (pt_cmpR o_gt (pe_op o_mul (pv 10) (pv 5)) (pv 4) (nomark _)) (pss_cons (ps_set (i := 10) sc_simplest_above.nd rfl (by first | exact Or.inl rfl | exact Or.inr rfl) (pe_op o_div (pv 2) (pv 3)))
    (pss_cons (ps_par (i := 6) (j := 8) (by rfl) sc_simplest_above.nd rfl rfl (by decide) rfl rfl (pa_cons (pv 8) (pa_cons (pe_op o_add (pe_op o_mul (pv 10) (pv 8)) (pv 6)) pa_nil)) (by rfl))
    (pss_cons (ps_par (i := 7) (j := 9) (by rfl) sc_simplest_above.nd rfl rfl (by decide) rfl rfl (pa_cons (pv 9) (pa_cons (pe_op o_add (pe_op o_mul (pv 10) (pv 9)) (pv 7)) pa_nil)) (by rfl))
    (pss_cons (ps_set (i := 11) sc_simplest_above.nd rfl (by first | exact Or.inl rfl | exact Or.inr rfl) (pe_op o_sub (pv 2) (pe_op o_mul (pv 10) (pv 3))))
    (pss_cons (ps_set (i := 12) sc_simplest_above.nd rfl (by first | exact Or.inl rfl | exact Or.inr rfl) (pe_op o_sub (pv 4) (pe_op o_mul (pv 10) (pv 5))))
    (pss_cons (ps_asg (pe_tup (pa_cons (pv 5) (pa_cons (pv 12) (pa_cons (pv 3) (pa_cons (pv 11) pa_nil))))) (pg_tup (by rfl) (pgs_cons (pg_name (i := 2) sc_simplest_above.nd rfl (by first | exact Or.inl rfl | exact Or.inr rfl)) (pgs_cons (pg_name (i := 3) sc_simplest_above.nd rfl (by first | exact Or.inl rfl | exact Or.inr rfl)) (pgs_cons (pg_name (i := 4) sc_simplest_above.nd rfl (by first | exact Or.inl rfl | exact Or.inr rfl)) (pgs_cons (pg_name (i := 5) sc_simplest_above.nd rfl (by first | exact Or.inl rfl | exact Or.inr rfl)) pgs_nil))))))
    (pss_one (ps_set (i := 10) sc_simplest_above.nd rfl (by first | exact Or.inl rfl | exact Or.inr rfl) (pe_un o_neg (pe_op o_div (pe_un o_neg (pv 2)) (pv 3))))))))))))
    (pss_one (ps_ret (pe_mk (c_RatioD_initD (K := K) L) hr (by decide) (L2N.takes_of rfl rfl rfl rfl) (pa_cons (pe_op o_add (pe_op o_mul (pv 10) (pv 8)) (pv 6)) (pa_cons (pe_op o_add (pe_op o_mul (pv 10) (pv 9)) (pv 7)) pa_nil))))))))), ?_⟩
  obtain ⟨p, r, lt, lb, ht, hb, rfl, rfl, h1, h2, ⟨b1, b2, c1, c2, l1, l2, g1, g2, _, _⟩, lt1, ho, k⟩ := h
  have ht1 : 1 ≤ ht := by
    by_cases q : ht ≤ 0
    · have e1 : ht * lb ≤ 0 * lb := Int.mul_le_mul_of_nonneg_right q (by omega)
      have e2 : 1 * 1 ≤ lt * hb := Int.mul_le_mul lt1 b2 (by omega) (by omega)
      omega
    · omega
  walk_at "zz"
  rename_i pa Ha _ sa _ pb Hb _ sb _
  have sab : Same H Hb := sa.trans sb
  refine ⟨fun m σ' H' => ∃ (u v x y a b c d : Int) (e f : Option V), σ' = [some (.ref p), some (.ref r), some (.int u), some (.int v), some (.int x), some (.int y), some (.int a), some (.int b), some (.int c), some (.int d), some (.int (S1.ceil u v)), e, f] ∧ Same H H' ∧ m = v.toNat + y.toNat ∧ S1.Lp lt lb ht hb 1461501637330902918203684832716283019655932542976 u v x y a b c d, ⟨_, _, _, _, _, _, _, _, _, _, _, rfl, sab, rfl, S1.lp_start lt1 b1 ht1 b2 ho l2 c1 g2 c2⟩, ?_⟩
  rintro m σ' H' ⟨u, v, x, y, a, b, c, d, e, f, rfl, sH, rfl, I⟩
  have iz := S1.lp_sizes I
  have cb := ceil_bd I.l1 I.l2
  have f0 : 0 ≤ u / v := Int.ediv_nonneg (by have := I.l1; omega) (by have := I.l2; omega)
  have f1 : u / v ≤ u := Int.ediv_le_self _ (by have := I.l1; omega)
  have i1 := I.l1
  have i2 := I.l2
  have i3 := I.l3
  have i4 := I.l4
  have i5 := I.n1
  have i6 := I.n2
  have i7 := I.n3
  have i8 := I.n4
  have i9 := I.c1
  have i10 := I.c2
  have i11 := I.c3
  have i12 := I.c4
  walk_at "zz"
  refine z_d2 (fun t => ?_) (fun t => ?_)
  · refine ⟨_, fun _ _ h => h, ?_⟩
    obtain ⟨I2, lt2⟩ := S1.lp_step I t
    have j2 := I2.l2
    have j4 := I2.c2
    walk_at "zz"
    rename_i sZ _
    exact ⟨_, lt2, _, _, _, _, _, _, _, _, _, _, rfl, sH.trans sZ, Nat.add_comm _ _, I2⟩
  · have t' : S1.ceil u v * y ≤ x := by omega
    have m2 := S1.lp_end I t'
    have m3 := S1.best_of_min2 lt1 b1 b2 m2
    have z0 := S1.best_size (B := 1461501637330902918203684832716283019655932542976) b1 b2 ho (by omega) g2 c1 (by decide) m3
    have z1 := m3.b1
    walk_at "zz"
    refine z_mkR2 (by omega) (by omega) (by omega) (fun q H2 s2 hq => ?_)
    obtain ⟨e1, e2⟩ := rt_low (by omega) m3.g
    rw [e1, e2] at hq
    exact k q H2 _ _ (sH.trans s2) hq m3
theorem c_simplest_above (L : Lw K mg) : Cal P w K mg base 3 "simplest_above" (sp2 (fs_above K)) [] := by
  obtain ⟨fd, F⟩ := L.d_simplest_above
  exact ⟨⟨_, fd, ["low", "high"], [], ok_simplest_above L F, L.g_simplest_above, F.kp, F.bindsN (fun _ _ _ _ _ _ us hl => match us, hl with | [_, _], _ => rfl), .nil⟩⟩
end
def fs_simp (K : Frag) : F2 := fun a b H Q E => ∃ (p r : Addr) (lt lb ht hb : Int), a = .ref p ∧ b = .ref r ∧ IsR K H p lt lb ∧ IsR K H r ht hb ∧ SOk lt lb ht hb ∧
  (lt * hb ≤ ht * lb → ∀ q H' t s, Same H H' → IsR K H' q t s → S1.Best lt lb ht hb t s → Q (.ref q) H') ∧
  (ht * lb < lt * hb → ∀ d H', Same H H' → H' d = some (.xd [("high", .ref r), ("low", .ref p)]) → E (.ref (He.ga K "Crossed")) (some d) H')
local macro_rules | `(tactic| walk_at "z") => `(tactic| ((with_reducible refine' u_cmp ?zl1 ?zl2 ?zl3 ?zl4 ?zl5 ?zl6 ?zl7 ?zl8 ?zl9 ?zl10 ?_); (case zl1 => walk_at "up"); (case zl2 => walk_at "up"); (case zl3 => omega); (case zl4 => omega); (case zl5 => omega); (case zl6 => omega); (case zl7 => omega); (case zl8 => omega); (case zl9 => omega); (case zl10 => omega)))
local macro_rules | `(tactic| walk_at "z") => `(tactic| ((with_reducible refine' u_sign ?zl1 ?_); (case zl1 => walk_at "up")))
local macro_rules | `(tactic| walk_at "z") => `(tactic| ((with_reducible refine' u_neg ?zl1 ?zl2 ?zl3 ?zl4 ?_); (case zl1 => walk_at "up"); (case zl2 => assumption); (case zl3 => omega); (case zl4 => omega); intro p H' hs hr'))
local macro_rules | `(tactic| walk_at "z") => `(tactic| ((with_reducible refine' z_ownN ?zl1 ?_); (case zl1 => walk_at "up")))
section
variable {P : Program} {w : World} {K : Frag} {mg : Str → Option Value} {base : Heap}
theorem ok_simplest (L : Lw K mg) {fd : FuncData} (F : FunD K "simplest" "simplest" (defArgs s_simplest) (defBody s_simplest) (defScope s_simplest) (df_simplest.dvs K) (df_simplest.kws K) (He.fAd K ("simplest", none)) fd) : FnOk P w K mg base (L2N.CX P w) 4 (He.fAd K ("simplest", none)) fd (["low", "high"] : List Str) (sp2 (fs_simp K)) := by
  refine FunD.ok F sc_simplest len2 (fun cdv A outer s H vs Q E hr h => ?_)
  obtain ⟨a, b, rfl, h⟩ := h
  refine ⟨_, (pss_cons (ps_if (pt_cmpR o_gt (pe_mt (c_Ratio_compare (K := K) L) hr (by decide) (L2N.takes_of rfl rfl rfl rfl) (pv 0) (pa_cons (pv 1) pa_nil)) pe_int (nomark _)) (pss_one (L2N.ps_raise rfl (L2N.takes_of rfl rfl rfl rfl) (pmk_x (c_CrossedD_initD (K := K) L) hr (by decide) passF (pa_cons (pv 0) (pa_cons (pv 1) pa_nil))))) pss_nil)
    (pss_cons (ps_if (PW.pt (pw_and (pt_cmpR o_le (pe_mt0 (c_Ratio_sign (K := K) L) hr (by decide) (L2N.takes_of rfl rfl rfl rfl) (pv 0)) pe_int (nomark _)) (pw_and1 (pt_cmpR o_ge (pe_mt0 (c_Ratio_sign (K := K) L) hr (by decide) (L2N.takes_of rfl rfl rfl rfl) (pv 1)) pe_int (nomark _))))) (pss_one (ps_ret (pe_mk (c1_RatioD_initD (K := K) L) hr (by decide) (L2N.takes_of rfl rfl rfl rfl) (pa_cons pe_int pa_nil)))) pss_nil)
    (pss_cons (ps_if (pt_cmpR o_lt (pe_mt0 (c_Ratio_sign (K := K) L) hr (by decide) (L2N.takes_of rfl rfl rfl rfl) (pv 1)) pe_int (nomark _)) (pss_one (ps_ret (pe_un (un_or2 o_neg (un_own (c_RatioD_negD (K := K) L) hr (by decide) passF)) (pe_c (c_simplest_above (K := K) L) hr (by decide) (L2N.takes_of rfl rfl rfl rfl) (pa_cons (pe_un (un_or2 o_neg (un_own (c_RatioD_negD (K := K) L) hr (by decide) passF)) (pv 1)) (pa_cons (pe_un (un_or2 o_neg (un_own (c_RatioD_negD (K := K) L) hr (by decide) passF)) (pv 0)) pa_nil)))))) pss_nil)
    (pss_one (ps_ret (pe_c (c_simplest_above (K := K) L) hr (by decide) (L2N.takes_of rfl rfl rfl rfl) (pa_cons (pv 0) (pa_cons (pv 1) pa_nil)))))))), ?_⟩
  obtain ⟨p, r, lt, lb, ht, hb, rfl, rfl, h1, h2, ok, k, kx⟩ := h
  obtain ⟨b1, b2, c1, c2, l1, l2, g1, g2, k1, k2⟩ := id ok
  walk_at "zz"
  refine z_d2 (fun c => ?_) (fun c => ?_)
  · rw [cmp_pos] at c
    walk_at "zz"
    refine z_exo2 (fun d H' s e => ?_)
    exact kx c d H' s e
  have ho : lt * hb ≤ ht * lb := by
    rw [cmp_pos] at c
    omega
  have k' := k ho
  walk_at "zz"
  have zero : lt ≤ 0 → 0 ≤ ht → zMk (He.ga K "Ratio") (sp3 (fs_rinit K)) [.int 1] E [.int 0] H Q := fun q1 q2 =>
    z_mkR1 (fun q H' s hq => k' q H' 0 1 s hq (S1.best_zero q1 q2))
  refine z_d2 (fun c1' => ?_) (fun c1' => ?_)
  · rw [cmp_le] at c1'
    walk_at "zz"
    refine z_d2 (fun c2' => ?_) (fun c2' => ?_)
    · rw [cmp_ge] at c2'
      walk_at "zz"
      exact zero c1' c2'
    · have c3 : cmpI ht 0 < 0 := by
        rw [cmp_ge] at c2'
        rw [cmp_neg]
        omega
      walk_at "zz"
      refine z_dT c3 ?_
      rw [cmp_neg] at c3
      walk_at "zz"
      rename_i qa Ha sa hqa qb Hb sb hqb
      refine ⟨_, _, rfl, qa, qb, -ht, hb, -lt, lb, rfl, rfl, hqa.mono sb, hqb, ⟨b2, b1, c2, c1, by omega, by omega, by omega, by omega, by rw [Int.neg_gcd]; exact k2, by rw [Int.neg_gcd]; exact k1⟩, by omega, ?_, fun q Hq t s sq hq m => ?_⟩
      · rw [Int.neg_mul, Int.neg_mul]
        omega
      · obtain ⟨y1, y2, y3⟩ := S1.best_size (B := 1461501637330902918203684832716283019655932542976) b2 b1 (by rw [Int.neg_mul, Int.neg_mul]; omega) (by omega) (by omega) c2 (by decide) m
        have y4 := m.b1
        refine z_ownN hq (u_neg hq m.g (by omega) (by omega) (fun q' Hq' sq' hq' => ?_))
        exact k' q' Hq' (-t) s (((sa.trans sb).trans sq).trans sq') hq' (S1.best_neg' m)
  · rw [cmp_le] at c1'
    walk_at "zz"
    refine z_d2 (fun c3 => ?_) (fun c3 => ?_)
    · walk_at "zz"
      rw [cmp_neg] at c3
      rename_i qa Ha sa hqa qb Hb sb hqb
      refine ⟨_, _, rfl, qa, qb, -ht, hb, -lt, lb, rfl, rfl, hqa.mono sb, hqb, ⟨b2, b1, c2, c1, by omega, by omega, by omega, by omega, by rw [Int.neg_gcd]; exact k2, by rw [Int.neg_gcd]; exact k1⟩, by omega, ?_, fun q Hq t s sq hq m => ?_⟩
      · rw [Int.neg_mul, Int.neg_mul]
        omega
      · obtain ⟨y1, y2, y3⟩ := S1.best_size (B := 1461501637330902918203684832716283019655932542976) b2 b1 (by rw [Int.neg_mul, Int.neg_mul]; omega) (by omega) (by omega) c2 (by decide) m
        have y4 := m.b1
        refine z_ownN hq (u_neg hq m.g (by omega) (by omega) (fun q' Hq' sq' hq' => ?_))
        exact k' q' Hq' (-t) s (((sa.trans sb).trans sq).trans sq') hq' (S1.best_neg' m)
    · walk_at "zz"
      exact ⟨_, _, rfl, p, r, lt, lb, ht, hb, rfl, rfl, h1, h2, ok, by omega, ho, k'⟩
theorem c_simplest (L : Lw K mg) : Cal P w K mg base 4 "simplest" (sp2 (fs_simp K)) [] := by
  obtain ⟨fd, F⟩ := L.d_simplest
  exact ⟨⟨_, fd, ["low", "high"], [], ok_simplest L F, L.g_simplest, F.kp, F.bindsN (fun _ _ _ _ _ _ us hl => match us, hl with | [_, _], _ => rfl), .nil⟩⟩
theorem ck_simplest_0_high_low (L : Lw K mg) : CalK P w K mg base 4 "simplest" (sp2 (fs_simp K)) 0 ["high", "low"] (fun vs zs => vs ++ zs.reverse) := by
  obtain ⟨fd, F⟩ := L.d_simplest
  exact ⟨⟨_, fd, ["low", "high"], _, ok_simplest L F, L.g_simplest, F.kp, (kbN F (ps := ["low", "high"]) 0 ["high", "low"] (fun _ _ _ _ _ _ us ws hl hw => match us, ws, hl, hw with | [], [_, _], _, _ => rfl))⟩⟩
end
end T

set_option maxHeartbeats 4000000
namespace T
open PySem PySem.Spec PyProof.Rows L2 Z
/-! the readings' steps, as one word: walk_at "z" (one step), "zz" (as far as it goes), "up" (a fact carried here) -/
local macro_rules | `(tactic| walk_at "up") => `(tactic| first
  | assumption
  | (refine' IsR.mono (by assumption) ?zup; case zup => walk_at "up")
  | (refine' IsE.mono (by assumption) ?zup; case zup => walk_at "up")
  | (refine' Same.at (by assumption) ?zup; case zup => walk_at "up")
  | (refine' SqL.of ?zup; case zup => walk_at "up")
  | (refine' L2.Same.seq (by assumption) ?zup; case zup => walk_at "up"))
local macro_rules | `(tactic| walk_at "z") => `(tactic| first
  | ((with_reducible refine' z_var ?zvh ?_); (case zvh => exact rfl))
  | with_reducible refine z_c ?_
  | with_reducible refine z_cons ?_
  | with_reducible refine z_nil ?_
  | with_reducible refine z_op ?_
  | with_reducible refine z_nx ?_
  | with_reducible refine z_seq ?_
  | with_reducible refine z_asg ?_
  | with_reducible refine z_asgG ?_
  | with_reducible refine z_call ?_
  | with_reducible refine z_sq0 ?_
  | with_reducible refine z_sq1 ?_
  | with_reducible refine z_ifS ?_
  | with_reducible refine z_test ?_
  | with_reducible refine z_tb ?_
  | with_reducible refine z_bl ?_
  | with_reducible refine z_blI ?_
  | with_reducible refine z_ret ?_
  | with_reducible refine z_rt ?_
  | with_reducible refine z_T ?_
  | with_reducible refine z_F ?_
  | with_reducible refine z_add ?_
  | with_reducible refine z_sub ?_
  | with_reducible refine z_neg ?_
  | with_reducible refine z_un ?_
  | with_reducible refine z_eqI ?_
  | with_reducible refine z_neI ?_
  | with_reducible refine z_lt ?_
  | with_reducible refine z_le ?_
  | with_reducible refine z_gt ?_
  | with_reducible refine z_ge ?_
  | with_reducible refine z_not ?_
  | with_reducible refine z_and ?_
  | with_reducible refine z_or ?_
  | with_reducible refine z_andV ?_
  | with_reducible refine z_orV ?_
  | with_reducible refine z_notV ?_
  | with_reducible refine z_if ?_
  | with_reducible refine z_cb ?_
  | with_reducible refine z_int1 ?_
  | with_reducible refine z_intb ?_
  | with_reducible refine z_abs ?_
  | with_reducible refine z_gcd ?_
  | with_reducible refine z_isi_ii ?_
  | with_reducible refine z_isi_ib ?_
  | with_reducible refine z_next ?_
  | with_reducible refine z_drop ?_
  | with_reducible refine z_par ?_
  | with_reducible refine z_par2 ?_
  | with_reducible refine z_tupN ?_
  | with_reducible refine z_lstN ?_
  | ((with_reducible refine' z_nt ?zl1 ?_); (case zl1 => exact Nat.le_of_ble_eq_true rfl); intro p H' hp hs he)
  | ((with_reducible refine' z_gtup ?zl1 ?zl2 ?_); (case zl1 => walk_at "up"); (case zl2 => exact rfl))
  | with_reducible refine z_bk ?_
  | with_reducible refine z_ct ?_
  | with_reducible refine z_break ?_
  | with_reducible refine z_cont ?_
  | with_reducible refine z_retN ?_
  | with_reducible refine z_nn ?_
  | with_reducible refine z_mk ?_
  | with_reducible refine z_gn ?_
  | with_reducible refine z_gcons ?_
  | with_reducible refine z_gnil ?_
  | with_reducible refine z_mt ?_
  | with_reducible refine z_mko ?_
  | with_reducible refine z_for2 ?_
  | with_reducible refine z_ownI ?_
  | ((with_reducible refine' z_lenL ?zl1 ?_); (case zl1 => walk_at "up"))
  | ((with_reducible refine' z_ixT ?zl1 ?zl2 ?_); (case zl1 => walk_at "up"); (case zl2 => exact rfl))
  | ((with_reducible refine' z_mulL ?zl1 ?zl2 ?_); (case zl1 => omega); (case zl2 => omega))
  | ((with_reducible refine' z_mulR ?zl1 ?zl2 ?_); (case zl1 => omega); (case zl2 => omega))
  | ((with_reducible refine' z_divS ?zl1 ?zl2 ?_); (case zl1 => omega); (case zl2 => omega))
  | ((with_reducible refine' z_mulW ?zl1 ?zl2 ?zl3 ?zl4 ?_); (case zl1 => omega); (case zl2 => omega); (case zl3 => omega); (case zl4 => omega))
  | ((with_reducible refine' z_divW ?zl1 ?zl2 ?_); (case zl1 => omega); (case zl2 => omega)))
local macro_rules | `(tactic| walk_at "zz") => `(tactic| repeat (walk_at "z"))
local macro_rules | `(tactic| walk_at "z") => `(tactic| ((with_reducible refine' u_mod ?zl1 ?_); (case zl1 => omega); intro r hr0 hr1 hre))
local macro_rules | `(tactic| walk_at "z") => `(tactic| ((with_reducible refine' u_cell ?zl1 ?zl2 ?_); (case zl1 => walk_at "up"); (case zl2 => omega); intro c))
local macro_rules | `(tactic| walk_at "z") => `(tactic| ((with_reducible refine' u_signed ?zl1 ?_); (case zl1 => omega); intro r hr0 hr1))
local macro_rules | `(tactic| walk_at "z") => `(tactic| with_reducible refine u_whole ?_)
local macro_rules | `(tactic| walk_at "z") => `(tactic| ((with_reducible refine' u_common ?zl1 ?_); (case zl1 => omega)))
local macro_rules | `(tactic| walk_at "z") => `(tactic| ((with_reducible refine' z_fldt ?zc1 ?zc2 ?zl1 ?zl2 ?_); (case zc1 => exact Lw.cl_Ratio (by assumption)); (case zc2 => exact Lw.na_Ratio_top (by assumption)); (case zl1 => exact rfl); (case zl2 => walk_at "up")))
local macro_rules | `(tactic| walk_at "z") => `(tactic| ((with_reducible refine' z_fldb ?zc1 ?zc2 ?zl1 ?zl2 ?_); (case zc1 => exact Lw.cl_Ratio (by assumption)); (case zc2 => exact Lw.na_Ratio_bottom (by assumption)); (case zl1 => exact rfl); (case zl2 => walk_at "up")))
local macro_rules | `(tactic| walk_at "z") => `(tactic| ((with_reducible refine' z_mtR ?zl1 ?_); (case zl1 => walk_at "up")))
local macro_rules | `(tactic| walk_at "z") => `(tactic| ((with_reducible refine' z_isR ?zl1 ?zl2 ?zl3 ?_); (case zl1 => exact Lw.in_Ratio (by assumption)); (case zl2 => exact Lw.kt_Ratio_Ratio (by assumption)); (case zl3 => walk_at "up")))
local macro_rules | `(tactic| walk_at "z") => `(tactic| ((with_reducible refine' z_nlR ?zl1 ?_); (case zl1 => exact Nat.le_of_ble_eq_true rfl); intro p H' hp hs he))
local macro_rules | `(tactic| walk_at "z") => `(tactic| with_reducible refine z_lstN ?_)
local macro_rules | `(tactic| walk_at "z") => `(tactic| with_reducible refine z_p6 ?_)
local macro_rules | `(tactic| walk_at "z") => `(tactic| with_reducible refine z_p12 ?_)
local macro_rules | `(tactic| walk_at "z") => `(tactic| with_reducible refine z_p13 ?_)
local macro_rules | `(tactic| walk_at "z") => `(tactic| with_reducible refine z_calln ?_)
local macro_rules | `(tactic| walk_at "z") => `(tactic| with_reducible refine z_xfS ?_)
local macro_rules | `(tactic| walk_at "z") => `(tactic| ((with_reducible refine' u_btw ?zl1 ?zl2 ?zl3 ?zl4 ?zl5 ?zl6 ?_); (case zl1 => walk_at "up"); (case zl2 => assumption); (case zl3 => omega); (case zl4 => omega); (case zl5 => omega); (case zl6 => omega)))

def fs_cr (K : Frag) : F3 := fun a b c H Q _ => ∃ (p r e : Addr) (lt lb ht hb : Int), a = .ref p ∧ b = .ref r ∧ c = .ref e ∧ IsR K H p (rt lt lb) (rb lt lb) ∧ IsR K H r (rt ht hb) (rb ht hb) ∧ IsE H e lt lb ht hb ∧ EOk lt lb ht hb ∧ lt * hb < ht * lb ∧ ∀ H', Same H H' → Q (.bl true) H'
/-- the parts in lowest terms of ends -/
theorem sok {lt lb ht hb : Int} (h : EOk lt lb ht hb) : SOk (rt lt lb) (rb lt lb) (rt ht hb) (rb ht hb) := by
  obtain ⟨b1, b2, c1, c2, l1, l2, g1, g2⟩ := h
  obtain ⟨x1, x2, x3⟩ := rt_spec (n := lt) (d := lb) (by omega)
  obtain ⟨y1, y2, y3⟩ := rt_spec (n := ht) (d := hb) (by omega)
  obtain ⟨u1, u2, u3⟩ := rt_size (n := lt) (d := lb) (by omega) l1 l2 (by decide) c1
  obtain ⟨v1, v2, v3⟩ := rt_size (n := ht) (d := hb) (by omega) g1 g2 (by decide) c2
  exact ⟨by omega, by omega, by omega, by omega, by omega, by omega, by omega, by omega, x2, y2⟩
theorem SOk.swap {a b c d : Int} (h : SOk a b c d) : SOk c d a b := ⟨h.b2, h.b1, h.c2, h.c1, h.h1, h.h2, h.l1, h.l2, h.k2, h.k1⟩
section
variable {P : Program} {w : World} {K : Frag} {mg : Str → Option Value} {base : Heap}
theorem ok_law_crossed (L : Lw K mg) {fd : FuncData} (F : FunD K "_law_crossed" "_law_crossed" (defArgs s_law_crossed) (defBody s_law_crossed) (defScope s_law_crossed) (df_law_crossed.dvs K) (df_law_crossed.kws K) (He.fAd K ("_law_crossed", none)) fd) : FnOk P w K mg base (L2N.CX P w) 5 (He.fAd K ("_law_crossed", none)) fd (["a", "b", "ends"] : List Str) (sp3 (fs_cr K)) := by
  refine FunD.ok F sc_law_crossed len3 (fun cdv A outer s H vs Q E hr h => ?_)
  obtain ⟨a, b, c, rfl, h⟩ := h
  refine ⟨_, (pss_cons (L2N.ps_try_as (i := 3) rfl rfl sc_law_crossed.nd rfl rfl ⟨rfl, by decide, Or.inl L.g_Crossed⟩ (L2N.takes_of rfl rfl rfl rfl)
    (fun W pn xe tk po => (pss_one (ps_expr (pe_c (c_simplest (K := K) L) hr (by decide) tk (pa_cons (pv 1) (pa_cons (pv 0) pa_nil))))))
    (fun a oe cls dd pn hz hf => (pss_cons (ps_if (PW.pt (pw_or (pt_val (pe_callB (call_isEx L.ec_Crossed (L2N.Zn.zc hz) hf) (by rfl) L.f_isinstance (by decide +kernel) (pa_cons (pv 3) (pa_cons (pe_cls L.g_ZeroBottom) pa_nil)))) (pw_or1 (pt_not (pt_val (pe_callB (call_isEx L.ec_Crossed (L2N.Zn.zc hz) hf) (by rfl) L.f_isinstance (by decide +kernel) (pa_cons (pv 3) (pa_cons (pe_cls L.g_NoughtError) pa_nil)))))))) (pss_one (ps_ret pe_bl)) pss_nil)
    (pss_one (ps_ret (pe_and (pe_ch (ch_law_is (K := K) L) (room_suite hr _) (by decide) (hot_suite hz hf) (pa_cons (pe_xf L.xf_Crossed L.na_Crossed_low (L2N.Zn.zc hz) hf (pv 3)) (pa_cons (pe_ix (ix_seqK (K := K) rfl) (pv 2) pe_int (fun _ _ => rfl)) pa_nil))) (pe_one (pe_ch (ch_law_is (K := K) L) (room_suite hr _) (by decide) (hot_suite hz hf) (pa_cons (pe_xf L.xf_Crossed L.na_Crossed_high (L2N.Zn.zc hz) hf (pv 3)) (pa_cons (pe_ix (ix_seqK (K := K) rfl) (pv 2) pe_int (fun _ _ => rfl)) pa_nil))))))))))
    (pss_one (ps_ret pe_bl))), ?_⟩
  obtain ⟨p, r, e, lt, lb, ht, hb, rfl, rfl, rfl, h1, h2, ⟨x, y, h3, h4, h5⟩, ok, lo, k⟩ := h
  have so := (sok ok).swap
  obtain ⟨b1, b2, c1, c2, l1, l2, g1, g2⟩ := id ok
  obtain ⟨x1, x2, x3⟩ := rt_spec (n := lt) (d := lb) (by omega)
  obtain ⟨y1, y2, y3⟩ := rt_spec (n := ht) (d := hb) (by omega)
  have lr := S1.red_lt (show 0 < lb by omega) x1 (show 0 < hb by omega) y1 x3 y3 lo
  walk_at "zz"
  refine ⟨_, _, rfl, r, p, _, _, _, _, rfl, rfl, h2, h1, so, fun z => absurd z (by omega), fun _ d H' s hd => ?_⟩
  refine z_as L.xm_Crossed_Crossed (fun a ha => ?_)
  walk_at "zz"
  refine z_isX hd L.kt_Crossed_ZeroBottom ?_
  walk_at "zz"
  refine z_isX hd L.kt_Crossed_NoughtError ?_
  walk_at "zz"
  refine z_xf hd (look2b) ?_
  walk_at "zz"
  refine u_is (h2.mono s) (s _ _ h5) (by omega) (by omega) (fun b hb' => ?_)
  rw [of_iff hb' ⟨rfl, rfl⟩]
  walk_at "zz"
  refine z_xf hd look2a ?_
  walk_at "zz"
  refine u_is (h1.mono s) (s _ _ h4) (by omega) (by omega) (fun b2 hb2 => ?_)
  rw [of_iff hb2 ⟨rfl, rfl⟩]
  exact k _ s
theorem c_law_crossed (L : Lw K mg) : Cal P w K mg base 5 "_law_crossed" (sp3 (fs_cr K)) [] := by
  obtain ⟨fd, F⟩ := L.d_law_crossed
  exact ⟨⟨_, fd, ["a", "b", "ends"], [], ok_law_crossed L F, L.g_law_crossed, F.kp, F.bindsN (fun _ _ _ _ _ _ us hl => match us, hl with | [_, _, _], _ => rfl), .nil⟩⟩
end
end T

set_option maxHeartbeats 4000000
namespace T
open PySem PySem.Spec PyProof.Rows L2 Z
/-! the readings' steps, as one word: walk_at "z" (one step), "zz" (as far as it goes), "up" (a fact carried here) -/
local macro_rules | `(tactic| walk_at "up") => `(tactic| first
  | assumption
  | (refine' IsR.mono (by assumption) ?zup; case zup => walk_at "up")
  | (refine' IsE.mono (by assumption) ?zup; case zup => walk_at "up")
  | (refine' Same.at (by assumption) ?zup; case zup => walk_at "up")
  | (refine' SqL.of ?zup; case zup => walk_at "up")
  | (refine' L2.Same.seq (by assumption) ?zup; case zup => walk_at "up"))
local macro_rules | `(tactic| walk_at "z") => `(tactic| first
  | ((with_reducible refine' z_var ?zvh ?_); (case zvh => exact rfl))
  | with_reducible refine z_c ?_
  | with_reducible refine z_cons ?_
  | with_reducible refine z_nil ?_
  | with_reducible refine z_op ?_
  | with_reducible refine z_nx ?_
  | with_reducible refine z_seq ?_
  | with_reducible refine z_asg ?_
  | with_reducible refine z_asgG ?_
  | with_reducible refine z_call ?_
  | with_reducible refine z_sq0 ?_
  | with_reducible refine z_sq1 ?_
  | with_reducible refine z_ifS ?_
  | with_reducible refine z_test ?_
  | with_reducible refine z_tb ?_
  | with_reducible refine z_bl ?_
  | with_reducible refine z_blI ?_
  | with_reducible refine z_ret ?_
  | with_reducible refine z_rt ?_
  | with_reducible refine z_T ?_
  | with_reducible refine z_F ?_
  | with_reducible refine z_add ?_
  | with_reducible refine z_sub ?_
  | with_reducible refine z_neg ?_
  | with_reducible refine z_un ?_
  | with_reducible refine z_eqI ?_
  | with_reducible refine z_neI ?_
  | with_reducible refine z_lt ?_
  | with_reducible refine z_le ?_
  | with_reducible refine z_gt ?_
  | with_reducible refine z_ge ?_
  | with_reducible refine z_not ?_
  | with_reducible refine z_and ?_
  | with_reducible refine z_or ?_
  | with_reducible refine z_andV ?_
  | with_reducible refine z_orV ?_
  | with_reducible refine z_notV ?_
  | with_reducible refine z_if ?_
  | with_reducible refine z_cb ?_
  | with_reducible refine z_int1 ?_
  | with_reducible refine z_intb ?_
  | with_reducible refine z_abs ?_
  | with_reducible refine z_gcd ?_
  | with_reducible refine z_isi_ii ?_
  | with_reducible refine z_isi_ib ?_
  | with_reducible refine z_next ?_
  | with_reducible refine z_drop ?_
  | with_reducible refine z_par ?_
  | with_reducible refine z_par2 ?_
  | with_reducible refine z_tupN ?_
  | with_reducible refine z_lstN ?_
  | ((with_reducible refine' z_nt ?zl1 ?_); (case zl1 => exact Nat.le_of_ble_eq_true rfl); intro p H' hp hs he)
  | ((with_reducible refine' z_gtup ?zl1 ?zl2 ?_); (case zl1 => walk_at "up"); (case zl2 => exact rfl))
  | with_reducible refine z_bk ?_
  | with_reducible refine z_ct ?_
  | with_reducible refine z_break ?_
  | with_reducible refine z_cont ?_
  | with_reducible refine z_retN ?_
  | with_reducible refine z_nn ?_
  | with_reducible refine z_mk ?_
  | with_reducible refine z_gn ?_
  | with_reducible refine z_gcons ?_
  | with_reducible refine z_gnil ?_
  | with_reducible refine z_mt ?_
  | with_reducible refine z_mko ?_
  | with_reducible refine z_for2 ?_
  | with_reducible refine z_ownI ?_
  | ((with_reducible refine' z_lenL ?zl1 ?_); (case zl1 => walk_at "up"))
  | ((with_reducible refine' z_ixT ?zl1 ?zl2 ?_); (case zl1 => walk_at "up"); (case zl2 => exact rfl))
  | ((with_reducible refine' z_mulL ?zl1 ?zl2 ?_); (case zl1 => omega); (case zl2 => omega))
  | ((with_reducible refine' z_mulR ?zl1 ?zl2 ?_); (case zl1 => omega); (case zl2 => omega))
  | ((with_reducible refine' z_divS ?zl1 ?zl2 ?_); (case zl1 => omega); (case zl2 => omega))
  | ((with_reducible refine' z_mulW ?zl1 ?zl2 ?zl3 ?zl4 ?_); (case zl1 => omega); (case zl2 => omega); (case zl3 => omega); (case zl4 => omega))
  | ((with_reducible refine' z_divW ?zl1 ?zl2 ?_); (case zl1 => omega); (case zl2 => omega)))
local macro_rules | `(tactic| walk_at "zz") => `(tactic| repeat (walk_at "z"))
local macro_rules | `(tactic| walk_at "z") => `(tactic| ((with_reducible refine' u_mod ?zl1 ?_); (case zl1 => omega); intro r hr0 hr1 hre))
local macro_rules | `(tactic| walk_at "z") => `(tactic| ((with_reducible refine' u_cell ?zl1 ?zl2 ?_); (case zl1 => walk_at "up"); (case zl2 => omega); intro c))
local macro_rules | `(tactic| walk_at "z") => `(tactic| ((with_reducible refine' u_signed ?zl1 ?_); (case zl1 => omega); intro r hr0 hr1))
local macro_rules | `(tactic| walk_at "z") => `(tactic| with_reducible refine u_whole ?_)
local macro_rules | `(tactic| walk_at "z") => `(tactic| ((with_reducible refine' u_common ?zl1 ?_); (case zl1 => omega)))
local macro_rules | `(tactic| walk_at "z") => `(tactic| ((with_reducible refine' z_fldt ?zc1 ?zc2 ?zl1 ?zl2 ?_); (case zc1 => exact Lw.cl_Ratio (by assumption)); (case zc2 => exact Lw.na_Ratio_top (by assumption)); (case zl1 => exact rfl); (case zl2 => walk_at "up")))
local macro_rules | `(tactic| walk_at "z") => `(tactic| ((with_reducible refine' z_fldb ?zc1 ?zc2 ?zl1 ?zl2 ?_); (case zc1 => exact Lw.cl_Ratio (by assumption)); (case zc2 => exact Lw.na_Ratio_bottom (by assumption)); (case zl1 => exact rfl); (case zl2 => walk_at "up")))
local macro_rules | `(tactic| walk_at "z") => `(tactic| ((with_reducible refine' z_mtR ?zl1 ?_); (case zl1 => walk_at "up")))
local macro_rules | `(tactic| walk_at "z") => `(tactic| ((with_reducible refine' z_isR ?zl1 ?zl2 ?zl3 ?_); (case zl1 => exact Lw.in_Ratio (by assumption)); (case zl2 => exact Lw.kt_Ratio_Ratio (by assumption)); (case zl3 => walk_at "up")))
local macro_rules | `(tactic| walk_at "z") => `(tactic| ((with_reducible refine' z_nlR ?zl1 ?_); (case zl1 => exact Nat.le_of_ble_eq_true rfl); intro p H' hp hs he))
local macro_rules | `(tactic| walk_at "z") => `(tactic| with_reducible refine z_lstN ?_)
local macro_rules | `(tactic| walk_at "z") => `(tactic| with_reducible refine z_p6 ?_)
local macro_rules | `(tactic| walk_at "z") => `(tactic| with_reducible refine z_p12 ?_)
local macro_rules | `(tactic| walk_at "z") => `(tactic| with_reducible refine z_p13 ?_)
local macro_rules | `(tactic| walk_at "z") => `(tactic| with_reducible refine z_calln ?_)
local macro_rules | `(tactic| walk_at "z") => `(tactic| with_reducible refine z_xfS ?_)
local macro_rules | `(tactic| walk_at "z") => `(tactic| ((with_reducible refine' u_btw ?zl1 ?zl2 ?zl3 ?zl4 ?zl5 ?zl6 ?_); (case zl1 => walk_at "up"); (case zl2 => assumption); (case zl3 => omega); (case zl4 => omega); (case zl5 => omega); (case zl6 => omega)))

def fs_frac (K : Frag) : F3 := fun a b c H Q _ => ∃ (p : Addr) (ns : List Int) (i s : Int), a = .ref p ∧ b = .int i ∧ c = .int s ∧ SqL K H p (ns.map V.int) ∧ 0 ≤ i ∧ i ≤ 10 ∧
  ∀ q H' x y, Same H H' → H' q = some (.tup [.int x, .int y]) → 1 ≤ y → y ≤ 1000000000000 → -20000000000000 ≤ x → x ≤ 20000000000000 → Q (.ref q) H'
theorem shifts {k : Int} (h0 : 0 ≤ k) (h1 : k < 5) : ∃ v : Int, atI [.int 0, .int 314159265359, .int (-271828182846), .int 1000000000000, .int 618033988750] k = some (V.int v) ∧ -1000000000000 ≤ v ∧ v ≤ 1000000000000 := by
  have : k = 0 ∨ k = 1 ∨ k = 2 ∨ k = 3 ∨ k = 4 := by omega
  rcases this with rfl | rfl | rfl | rfl | rfl
  · exact ⟨_, rfl, by decide, by decide⟩
  · exact ⟨_, rfl, by decide, by decide⟩
  · exact ⟨_, rfl, by decide, by decide⟩
  · exact ⟨_, rfl, by decide, by decide⟩
  · exact ⟨_, rfl, by decide, by decide⟩
section
variable {P : Program} {w : World} {K : Frag} {mg : Str → Option Value} {base : Heap}
theorem ok_law_fraction (L : Lw K mg) {fd : FuncData} (F : FunD K "_law_fraction" "_law_fraction" (defArgs s_law_fraction) (defBody s_law_fraction) (defScope s_law_fraction) (df_law_fraction.dvs K) (df_law_fraction.kws K) (He.fAd K ("_law_fraction", none)) fd) : FnOk P w K mg base (L2N.CX P w) 3 (He.fAd K ("_law_fraction", none)) fd (["script", "at", "size"] : List Str) (sp3 (fs_frac K)) := by
  refine FunD.ok F sc_law_fraction len3 (fun cdv A outer s H vs Q E hr h => ?_)
  obtain ⟨a, b, c, rfl, h⟩ := h
  refine ⟨_, (pss_cons (ps_set (i := 3) sc_law_fraction.nd rfl (by first | exact Or.inl rfl | exact Or.inr rfl) (pe_c (c_law_cell (K := K) L) hr (by decide) (L2N.takes_of rfl rfl rfl rfl) (pa_cons (pv 0) (pa_cons (pv 1) pa_nil))))
    (pss_cons (ps_set (i := 4) sc_law_fraction.nd rfl (by first | exact Or.inl rfl | exact Or.inr rfl) (pe_c (c_law_cell (K := K) L) hr (by decide) (L2N.takes_of rfl rfl rfl rfl) (pa_cons (pv 0) (pa_cons (pe_op o_add (pv 1) pe_int) pa_nil))))
    (pss_cons (ps_if (pt_cmpR op_eq (pv 2) pe_int (nomark _)) (pss_cons (ps_set (i := 5) sc_law_fraction.nd rfl (by first | exact Or.inl rfl | exact Or.inr rfl) (pe_c (c_law_mod (K := K) L) hr (by decide) (L2N.takes_of rfl rfl rfl rfl) (pa_cons (pe_c (c_law_cell (K := K) L) hr (by decide) (L2N.takes_of rfl rfl rfl rfl) (pa_cons (pv 0) (pa_cons (pe_op o_add (pv 1) pe_int) pa_nil))) (pa_cons pe_int pa_nil))))
    (pss_cons (ps_set (i := 6) sc_law_fraction.nd rfl (by first | exact Or.inl rfl | exact Or.inr rfl) (pe_ix ix_seq (pe_lst (pa_cons pe_int (pa_cons pe_int (pa_cons (pe_un o_neg pe_int) (pa_cons (pe_op o_pow pe_int pe_int) (pa_cons pe_int pa_nil)))))) (pv 5) (fun _ _ => rfl)))
    (pss_cons (ps_set (i := 7) sc_law_fraction.nd rfl (by first | exact Or.inl rfl | exact Or.inr rfl) (pe_op o_add (pe_c (c_law_signed (K := K) L) hr (by decide) (L2N.takes_of rfl rfl rfl rfl) (pa_cons (pe_op o_add (pv 3) (pe_op o_mul pe_int (pv 1))) (pa_cons (pe_op o_pow pe_int pe_int) pa_nil))) (pv 6)))
    (pss_one (ps_ret (pe_tup (pa_cons (pv 7) (pa_cons (pe_op o_sub (pe_op o_pow pe_int pe_int) (pe_c (c_law_mod (K := K) L) hr (by decide) (L2N.takes_of rfl rfl rfl rfl) (pa_cons (pv 4) (pa_cons (pe_op o_pow pe_int pe_int) pa_nil)))) pa_nil)))))))) pss_nil)
    (pss_cons (ps_set (i := 8) sc_law_fraction.nd rfl (by first | exact Or.inl rfl | exact Or.inr rfl) pe_int)
    (pss_cons (ps_if (pt_cmpR o_lt (pv 2) pe_int (nomark _)) (pss_one (ps_set (i := 8) sc_law_fraction.nd rfl (by first | exact Or.inl rfl | exact Or.inr rfl) pe_int)) pss_nil)
    (pss_cons (ps_set (i := 7) sc_law_fraction.nd rfl (by first | exact Or.inl rfl | exact Or.inr rfl) (pe_c (c_law_signed (K := K) L) hr (by decide) (L2N.takes_of rfl rfl rfl rfl) (pa_cons (pe_op o_add (pe_op o_add (pv 3) pe_int) (pe_op o_mul pe_int (pv 1))) (pa_cons pe_int pa_nil))))
    (pss_one (ps_ret (pe_tup (pa_cons (pv 7) (pa_cons (pe_op o_add pe_int (pe_c (c_law_mod (K := K) L) hr (by decide) (L2N.takes_of rfl rfl rfl rfl) (pa_cons (pe_op o_add (pe_op o_add (pv 4) pe_int) (pe_op o_mul pe_int (pv 1))) (pa_cons (pv 8) pa_nil)))) pa_nil))))))))))), ?_⟩
  obtain ⟨p, ns, i, s, rfl, rfl, rfl, hS, i0, i1, k⟩ := h
  walk_at "zz"
  rename_i c1 c2
  refine z_d2 (fun c => ?_) (fun c => ?_)
  · walk_at "zz"
    rename_i c3 r3 hr0 hr1 _ pl Hl _ sl el
    obtain ⟨v, ev, v0, v1⟩ := shifts hr0 hr1
    refine z_ixL (SqL.of el) ev ?_
    walk_at "zz"
    refine k _ _ _ _ (sl.trans (by assumption)) (by assumption) ?_ ?_ ?_ ?_ <;> omega
  · walk_at "zz"
    refine z_d2 (fun c' => ?_) (fun c' => ?_)
    · walk_at "zz"
      refine k _ _ _ _ (by assumption) (by assumption) ?_ ?_ ?_ ?_ <;> omega
    · walk_at "zz"
      refine k _ _ _ _ (by assumption) (by assumption) ?_ ?_ ?_ ?_ <;> omega
theorem c_law_fraction (L : Lw K mg) : Cal P w K mg base 3 "_law_fraction" (sp3 (fs_frac K)) [] := by
  obtain ⟨fd, F⟩ := L.d_law_fraction
  exact ⟨⟨_, fd, ["script", "at", "size"], [], ok_law_fraction L F, L.g_law_fraction, F.kp, F.bindsN (fun _ _ _ _ _ _ us hl => match us, hl with | [_, _, _], _ => rfl), .nil⟩⟩
end
/-- what the law makes: ends in order, of less than 70 bits -/
structure EOk0 (lt lb ht hb : Int) : Prop where
  b1 : 1 ≤ lb
  b2 : 1 ≤ hb
  c1 : lb ≤ 1000000000000000000000
  c2 : hb ≤ 1000000000000000000000
  l1 : -1000000000000000000000 ≤ lt
  l2 : lt ≤ 1000000000000000000000
  h1 : -1000000000000000000000 ≤ ht
  h2 : ht ≤ 1000000000000000000000
  ord : lt * hb ≤ ht * lb
theorem EOk0.up {lt lb ht hb : Int} (h : EOk0 lt lb ht hb) : EOk lt lb ht hb := by
  obtain ⟨b1, b2, c1, c2, l1, l2, g1, g2, _⟩ := h
  exact ⟨b1, b2, by omega, by omega, by omega, by omega, by omega, by omega⟩
theorem sameB {H H1 H2 : Hp} (h : Same H1 H2) (e : Same H H1) : Same H H2 := e.trans h
local macro_rules | `(tactic| walk_at "sm") => `(tactic| first
  | assumption
  | exact fun _ _ h => h
  | (refine' sameB (by assumption) ?zsm; case zsm => walk_at "sm"))
def fs_ends (K : Frag) : F2 := fun a b H Q _ => ∃ (p : Addr) (ns : List Int) (s : Int), a = .ref p ∧ b = .int s ∧ SqL K H p (ns.map V.int) ∧
  ∀ e H' lt lb ht hb, Same H H' → IsE H' e lt lb ht hb → EOk0 lt lb ht hb → Q (.ref e) H'
theorem u_frac {K : Frag} {p : Addr} {ns : List Int} {i s : Int} {H : Hp} {Q : VK} {E : XK} (hS : SqL K H p (ns.map V.int)) (h1 : 0 ≤ i) (h2 : i ≤ 10) (k : ∀ q H' x y, Same H H' → H' q = some (.tup [.int x, .int y]) → 1 ≤ y → y ≤ 1000000000000 → -20000000000000 ≤ x → x ≤ 20000000000000 → Q (.ref q) H') : sp3 (fs_frac K) [.ref p, .int i, .int s] H Q E := ⟨_, _, _, rfl, p, ns, i, s, rfl, rfl, rfl, hS, h1, h2, k⟩
theorem mosts {b : Bool} {m : Int} (h : m = if b = true then (1 : Int) else 0) : ∃ v : Int, atI [.int 60, .int 1000000] m = some (V.int v) ∧ 1 ≤ v ∧ v ≤ 1000000 := by
  subst h
  cases b
  · exact ⟨60, rfl, by decide, by decide⟩
  · exact ⟨1000000, rfl, by decide, by decide⟩
section
variable {P : Program} {w : World} {K : Frag} {mg : Str → Option Value} {base : Heap}
theorem ok_law_ends (L : Lw K mg) {fd : FuncData} (F : FunD K "_law_ends" "_law_ends" (defArgs s_law_ends) (defBody s_law_ends) (defScope s_law_ends) (df_law_ends.dvs K) (df_law_ends.kws K) (He.fAd K ("_law_ends", none)) fd) : FnOk P w K mg base (L2N.CX P w) 4 (He.fAd K ("_law_ends", none)) fd (["script", "size"] : List Str) (sp2 (fs_ends K)) := by
  refine FunD.ok F sc_law_ends len2 (fun cdv A outer s H vs Q E hr h => ?_)
  obtain ⟨a, b, rfl, h⟩ := h
  refine ⟨_, (pss_cons (ps_set (i := 2) sc_law_ends.nd rfl (by first | exact Or.inl rfl | exact Or.inr rfl) (pe_c (c_law_mod (K := K) L) hr (by decide) (L2N.takes_of rfl rfl rfl rfl) (pa_cons (pe_op o_div (pe_c (c_law_cell (K := K) L) hr (by decide) (L2N.takes_of rfl rfl rfl rfl) (pa_cons (pv 0) (pa_cons pe_int pa_nil))) pe_int) (pa_cons pe_int pa_nil))))
    (pss_cons (ps_set (i := 3) sc_law_ends.nd rfl (by first | exact Or.inl rfl | exact Or.inr rfl) (pe_c (c_law_fraction (K := K) L) hr (by decide) (L2N.takes_of rfl rfl rfl rfl) (pa_cons (pv 0) (pa_cons pe_int (pa_cons (pv 1) pa_nil)))))
    (pss_cons (ps_set (i := 4) sc_law_ends.nd rfl (by first | exact Or.inl rfl | exact Or.inr rfl) (pe_c (c_law_fraction (K := K) L) hr (by decide) (L2N.takes_of rfl rfl rfl rfl) (pa_cons (pv 0) (pa_cons pe_int (pa_cons (pv 1) pa_nil)))))
    (pss_cons (ps_set (i := 5) sc_law_ends.nd rfl (by first | exact Or.inl rfl | exact Or.inr rfl) (pe_ix ix_seq (pe_lst (pa_cons pe_int (pa_cons (pe_op o_pow pe_int pe_int) pa_nil))) (pe_callTy o_int1 (by rfl) L.f_int (by decide +kernel) (pa_cons (pe_cmpR op_eq (pv 1) pe_int (nomark _)) pa_nil)) (fun _ _ => rfl)))
    (pss_cons (ps_set (i := 6) sc_law_ends.nd rfl (by first | exact Or.inl rfl | exact Or.inr rfl) (pe_op o_add pe_int (pe_c (c_law_mod (K := K) L) hr (by decide) (L2N.takes_of rfl rfl rfl rfl) (pa_cons (pe_op o_add (pe_c (c_law_cell (K := K) L) hr (by decide) (L2N.takes_of rfl rfl rfl rfl) (pa_cons (pv 0) (pa_cons pe_int pa_nil))) pe_int) (pa_cons (pv 5) pa_nil)))))
    (pss_cons (ps_set (i := 7) sc_law_ends.nd rfl (by first | exact Or.inl rfl | exact Or.inr rfl) (pe_op o_add pe_int (pe_c (c_law_mod (K := K) L) hr (by decide) (L2N.takes_of rfl rfl rfl rfl) (pa_cons (pe_op o_add (pe_c (c_law_cell (K := K) L) hr (by decide) (L2N.takes_of rfl rfl rfl rfl) (pa_cons (pv 0) (pa_cons pe_int pa_nil))) pe_int) (pa_cons (pv 5) pa_nil)))))
    (pss_cons (ps_set (i := 8) sc_law_ends.nd rfl (by first | exact Or.inl rfl | exact Or.inr rfl) (pe_ix ix_seq (pv 3) pe_int (fun _ _ => rfl)))
    (pss_cons (ps_set (i := 9) sc_law_ends.nd rfl (by first | exact Or.inl rfl | exact Or.inr rfl) (pe_ix ix_seq (pv 3) pe_int (fun _ _ => rfl)))
    (pss_cons (ps_set (i := 10) sc_law_ends.nd rfl (by first | exact Or.inl rfl | exact Or.inr rfl) (pe_op o_div (pv 8) (pv 9)))
    (pss_cons (ps_if (pt_cmpR op_eq (pv 2) pe_int (nomark _)) (pss_one (ps_ret (pe_tup (pa_cons (pv 3) (pa_cons (pv 3) pa_nil))))) pss_nil)
    (pss_cons (ps_if (pt_cmpR op_eq (pv 2) pe_int (nomark _)) (pss_one (ps_ret (pe_tup (pa_cons (pv 3) (pa_cons (pe_tup (pa_cons (pe_op o_add (pe_op o_mul (pv 8) (pv 6)) pe_int) (pa_cons (pe_op o_mul (pv 9) (pv 6)) pa_nil))) pa_nil))))) pss_nil)
    (pss_cons (ps_if (pt_cmpR op_eq (pv 2) pe_int (nomark _)) (pss_one (ps_ret (pe_tup (pa_cons (pe_tup (pa_cons (pe_op o_sub (pe_op o_mul (pv 8) (pv 6)) (pv 9)) (pa_cons (pe_op o_mul (pv 9) (pv 6)) pa_nil))) (pa_cons (pe_tup (pa_cons (pe_op o_add (pe_op o_mul (pv 8) (pv 7)) (pv 9)) (pa_cons (pe_op o_mul (pv 9) (pv 7)) pa_nil))) pa_nil))))) pss_nil)
    (pss_cons (ps_if (pt_cmpR op_eq (pv 2) pe_int (nomark _)) (pss_one (ps_ret (pe_tup (pa_cons (pe_tup (pa_cons (pe_op o_add (pe_op o_mul (pv 10) (pe_op o_add (pv 6) (pv 7))) pe_int) (pa_cons (pe_op o_add (pv 6) (pv 7)) pa_nil))) (pa_cons (pe_tup (pa_cons (pe_op o_add (pe_op o_mul (pv 10) (pv 6)) pe_int) (pa_cons (pv 6) pa_nil))) pa_nil))))) pss_nil)
    (pss_cons (ps_if (pt_cmpR op_eq (pv 2) pe_int (nomark _)) (pss_one (ps_ret (pe_tup (pa_cons (pe_tup (pa_cons (pv 10) (pa_cons pe_int pa_nil))) (pa_cons (pe_tup (pa_cons (pe_op o_add (pv 10) (pe_c (c_law_mod (K := K) L) hr (by decide) (L2N.takes_of rfl rfl rfl rfl) (pa_cons (pv 7) (pa_cons pe_int pa_nil)))) (pa_cons pe_int pa_nil))) pa_nil))))) pss_nil)
    (pss_cons (ps_if (pt_cmpR o_le (pe_op o_mul (pv 8) (pe_ix ix_seq (pv 4) pe_int (fun _ _ => rfl))) (pe_op o_mul (pe_ix ix_seq (pv 4) pe_int (fun _ _ => rfl)) (pv 9)) (nomark _)) (pss_one (ps_ret (pe_tup (pa_cons (pv 3) (pa_cons (pv 4) pa_nil))))) pss_nil)
    (pss_one (ps_ret (pe_tup (pa_cons (pv 4) (pa_cons (pv 3) pa_nil)))))))))))))))))))), ?_⟩
  obtain ⟨p, ns, s, rfl, rfl, hS, k⟩ := h
  walk_at "zz"
  refine u_frac (by walk_at "up") (by omega) (by omega) (fun f1 H1 p1 q1 s1 e1 a1 a2 a3 a4 => ?_)
  walk_at "zz"
  refine u_frac (by walk_at "up") (by omega) (by omega) (fun f2 H2 p2 q2 s2 e2 b1 b2 b3 b4 => ?_)
  walk_at "zz"
  rename_i pm Hm _ sm em
  obtain ⟨mo, emo, mo1, mo2⟩ := mosts (b := decide (s = 7)) rfl
  refine z_ixL (SqL.of em) emo ?_
  walk_at "zz"
  rename_i cn rn n0 n1 _ cm rm m0 m1 _
  generalize hn : 1 + rn = n
  generalize hm : 1 + rm = m
  have n2 : 1 ≤ n := by omega
  have n3 : n ≤ 1000000 := by omega
  have m2 : 1 ≤ m := by omega
  have m3 : m ≤ 1000000 := by omega
  have fb := div_bd (n := p1) (g := q1) (b := 20000000000000) a1 a3 a4 (by decide)
  have P1 := S1.mul_bd a3 a4 (show 0 ≤ n by omega) n3 (by decide)
  have P2 := S1.mul_bd a3 a4 (show 0 ≤ m by omega) m3 (by decide)
  have Q1 := S1.mul_bd (x := q1) (a := 1000000000000) (by omega) a2 (show 0 ≤ n by omega) n3 (by decide)
  have Q2 := S1.mul_bd (x := q1) (a := 1000000000000) (by omega) a2 (show 0 ≤ m by omega) m3 (by decide)
  have Q3 : 0 < q1 * n := Int.mul_pos (by omega) (by omega)
  have Q4 : 0 < q1 * m := Int.mul_pos (by omega) (by omega)
  have F1 := S1.mul_bd fb.1 fb.2 (show 0 ≤ n by omega) n3 (by decide)
  have F2 := S1.mul_bd fb.1 fb.2 (show 0 ≤ n + m by omega) (show n + m ≤ 2000000 by omega) (by decide)
  generalize p1 / q1 = fl at *
  refine z_d2 (fun c => ?_) (fun c => ?_)
  · walk_at "zz"
    exact k _ _ _ _ _ _ (by walk_at "sm") ⟨f1, f1, by assumption, by walk_at "up", by walk_at "up"⟩ ⟨by omega, by omega, by omega, by omega, by omega, by omega, by omega, by omega, Int.le_refl _⟩
  walk_at "zz"
  refine z_d2 (fun c => ?_) (fun c => ?_)
  · walk_at "zz"
    refine k _ _ _ _ _ _ (by walk_at "sm") ⟨f1, _, by assumption, by walk_at "up", by walk_at "up"⟩ ⟨by omega, by omega, by omega, by omega, by omega, by omega, by omega, by omega, ?_⟩
    have : p1 * (q1 * n) = (p1 * n) * q1 := by grind
    have : (p1 * n + 1) * q1 = (p1 * n) * q1 + 1 * q1 := Int.add_mul ..
    omega
  walk_at "zz"
  refine z_d2 (fun c => ?_) (fun c => ?_)
  · walk_at "zz"
    refine k _ _ _ _ _ _ (by walk_at "sm") ⟨_, _, by assumption, by walk_at "up", by walk_at "up"⟩ ⟨by omega, by omega, by omega, by omega, by omega, by omega, by omega, by omega, ?_⟩
    have z1 : 0 ≤ q1 * (q1 * m) := Int.mul_nonneg (by omega) (by omega)
    have z2 : 0 ≤ q1 * (q1 * n) := Int.mul_nonneg (by omega) (by omega)
    have : (p1 * n - q1) * (q1 * m) = p1 * n * (q1 * m) - q1 * (q1 * m) := Int.sub_mul ..
    have : (p1 * m + q1) * (q1 * n) = p1 * m * (q1 * n) + q1 * (q1 * n) := Int.add_mul ..
    have : p1 * n * (q1 * m) = p1 * m * (q1 * n) := by grind
    omega
  walk_at "zz"
  refine z_d2 (fun c => ?_) (fun c => ?_)
  · walk_at "zz"
    refine k _ _ _ _ _ _ (by walk_at "sm") ⟨_, _, by assumption, by walk_at "up", by walk_at "up"⟩ ⟨by omega, by omega, by omega, by omega, by omega, by omega, by omega, by omega, ?_⟩
    have : (fl * (n + m) + 1) * n = fl * n * (n + m) + n := by grind
    have : (fl * n + 1) * (n + m) = fl * n * (n + m) + (n + m) := by grind
    omega
  walk_at "zz"
  refine z_d2 (fun c => ?_) (fun c => ?_)
  · walk_at "zz"
    refine k _ _ _ _ _ _ (by walk_at "sm") ⟨_, _, by assumption, by walk_at "up", by walk_at "up"⟩ ⟨by omega, by omega, by omega, by omega, by omega, by omega, by omega, by omega, ?_⟩
    omega
  walk_at "zz"
  refine z_d2 (fun c => ?_) (fun c => ?_)
  · walk_at "zz"
    exact k _ _ _ _ _ _ (by walk_at "sm") ⟨_, _, by assumption, by walk_at "up", by walk_at "up"⟩ ⟨by omega, by omega, by omega, by omega, by omega, by omega, by omega, by omega, c⟩
  · walk_at "zz"
    refine k _ _ _ _ _ _ (by walk_at "sm") ⟨_, _, by assumption, by walk_at "up", by walk_at "up"⟩ ⟨by omega, by omega, by omega, by omega, by omega, by omega, by omega, by omega, ?_⟩
    omega
theorem c_law_ends (L : Lw K mg) : Cal P w K mg base 4 "_law_ends" (sp2 (fs_ends K)) [] := by
  obtain ⟨fd, F⟩ := L.d_law_ends
  exact ⟨⟨_, fd, ["script", "size"], [], ok_law_ends L F, L.g_law_ends, F.kp, F.bindsN (fun _ _ _ _ _ _ us hl => match us, hl with | [_, _], _ => rfl), .nil⟩⟩
end
end T

set_option maxHeartbeats 4000000
namespace T
open PySem PySem.Spec PyProof.Rows L2 Z
/-! the readings' steps, as one word: walk_at "z" (one step), "zz" (as far as it goes), "up" (a fact carried here) -/
local macro_rules | `(tactic| walk_at "up") => `(tactic| first
  | assumption
  | (refine' IsR.mono (by assumption) ?zup; case zup => walk_at "up")
  | (refine' IsE.mono (by assumption) ?zup; case zup => walk_at "up")
  | (refine' Same.at (by assumption) ?zup; case zup => walk_at "up")
  | (refine' SqL.of ?zup; case zup => walk_at "up")
  | (refine' L2.Same.seq (by assumption) ?zup; case zup => walk_at "up"))
local macro_rules | `(tactic| walk_at "z") => `(tactic| first
  | ((with_reducible refine' z_var ?zvh ?_); (case zvh => exact rfl))
  | with_reducible refine z_c ?_
  | with_reducible refine z_cons ?_
  | with_reducible refine z_nil ?_
  | with_reducible refine z_op ?_
  | with_reducible refine z_nx ?_
  | with_reducible refine z_seq ?_
  | with_reducible refine z_asg ?_
  | with_reducible refine z_asgG ?_
  | with_reducible refine z_call ?_
  | with_reducible refine z_sq0 ?_
  | with_reducible refine z_sq1 ?_
  | with_reducible refine z_ifS ?_
  | with_reducible refine z_test ?_
  | with_reducible refine z_tb ?_
  | with_reducible refine z_bl ?_
  | with_reducible refine z_blI ?_
  | with_reducible refine z_ret ?_
  | with_reducible refine z_rt ?_
  | with_reducible refine z_T ?_
  | with_reducible refine z_F ?_
  | with_reducible refine z_add ?_
  | with_reducible refine z_sub ?_
  | with_reducible refine z_neg ?_
  | with_reducible refine z_un ?_
  | with_reducible refine z_eqI ?_
  | with_reducible refine z_neI ?_
  | with_reducible refine z_lt ?_
  | with_reducible refine z_le ?_
  | with_reducible refine z_gt ?_
  | with_reducible refine z_ge ?_
  | with_reducible refine z_not ?_
  | with_reducible refine z_and ?_
  | with_reducible refine z_or ?_
  | with_reducible refine z_andV ?_
  | with_reducible refine z_orV ?_
  | with_reducible refine z_notV ?_
  | with_reducible refine z_if ?_
  | with_reducible refine z_cb ?_
  | with_reducible refine z_int1 ?_
  | with_reducible refine z_intb ?_
  | with_reducible refine z_abs ?_
  | with_reducible refine z_gcd ?_
  | with_reducible refine z_isi_ii ?_
  | with_reducible refine z_isi_ib ?_
  | with_reducible refine z_next ?_
  | with_reducible refine z_drop ?_
  | with_reducible refine z_par ?_
  | with_reducible refine z_par2 ?_
  | with_reducible refine z_tupN ?_
  | with_reducible refine z_lstN ?_
  | ((with_reducible refine' z_nt ?zl1 ?_); (case zl1 => exact Nat.le_of_ble_eq_true rfl); intro p H' hp hs he)
  | ((with_reducible refine' z_gtup ?zl1 ?zl2 ?_); (case zl1 => walk_at "up"); (case zl2 => exact rfl))
  | with_reducible refine z_bk ?_
  | with_reducible refine z_ct ?_
  | with_reducible refine z_break ?_
  | with_reducible refine z_cont ?_
  | with_reducible refine z_retN ?_
  | with_reducible refine z_nn ?_
  | with_reducible refine z_mk ?_
  | with_reducible refine z_gn ?_
  | with_reducible refine z_gcons ?_
  | with_reducible refine z_gnil ?_
  | with_reducible refine z_mt ?_
  | with_reducible refine z_mko ?_
  | with_reducible refine z_for2 ?_
  | with_reducible refine z_ownI ?_
  | ((with_reducible refine' z_lenL ?zl1 ?_); (case zl1 => walk_at "up"))
  | ((with_reducible refine' z_ixT ?zl1 ?zl2 ?_); (case zl1 => walk_at "up"); (case zl2 => exact rfl))
  | ((with_reducible refine' z_mulL ?zl1 ?zl2 ?_); (case zl1 => omega); (case zl2 => omega))
  | ((with_reducible refine' z_mulR ?zl1 ?zl2 ?_); (case zl1 => omega); (case zl2 => omega))
  | ((with_reducible refine' z_divS ?zl1 ?zl2 ?_); (case zl1 => omega); (case zl2 => omega))
  | ((with_reducible refine' z_mulW ?zl1 ?zl2 ?zl3 ?zl4 ?_); (case zl1 => omega); (case zl2 => omega); (case zl3 => omega); (case zl4 => omega))
  | ((with_reducible refine' z_divW ?zl1 ?zl2 ?_); (case zl1 => omega); (case zl2 => omega)))
local macro_rules | `(tactic| walk_at "zz") => `(tactic| repeat (walk_at "z"))
local macro_rules | `(tactic| walk_at "z") => `(tactic| ((with_reducible refine' u_mod ?zl1 ?_); (case zl1 => omega); intro r hr0 hr1 hre))
local macro_rules | `(tactic| walk_at "z") => `(tactic| ((with_reducible refine' u_cell ?zl1 ?zl2 ?_); (case zl1 => walk_at "up"); (case zl2 => omega); intro c))
local macro_rules | `(tactic| walk_at "z") => `(tactic| ((with_reducible refine' u_signed ?zl1 ?_); (case zl1 => omega); intro r hr0 hr1))
local macro_rules | `(tactic| walk_at "z") => `(tactic| with_reducible refine u_whole ?_)
local macro_rules | `(tactic| walk_at "z") => `(tactic| ((with_reducible refine' u_common ?zl1 ?_); (case zl1 => omega)))
local macro_rules | `(tactic| walk_at "z") => `(tactic| ((with_reducible refine' z_fldt ?zc1 ?zc2 ?zl1 ?zl2 ?_); (case zc1 => exact Lw.cl_Ratio (by assumption)); (case zc2 => exact Lw.na_Ratio_top (by assumption)); (case zl1 => exact rfl); (case zl2 => walk_at "up")))
local macro_rules | `(tactic| walk_at "z") => `(tactic| ((with_reducible refine' z_fldb ?zc1 ?zc2 ?zl1 ?zl2 ?_); (case zc1 => exact Lw.cl_Ratio (by assumption)); (case zc2 => exact Lw.na_Ratio_bottom (by assumption)); (case zl1 => exact rfl); (case zl2 => walk_at "up")))
local macro_rules | `(tactic| walk_at "z") => `(tactic| ((with_reducible refine' z_mtR ?zl1 ?_); (case zl1 => walk_at "up")))
local macro_rules | `(tactic| walk_at "z") => `(tactic| ((with_reducible refine' z_isR ?zl1 ?zl2 ?zl3 ?_); (case zl1 => exact Lw.in_Ratio (by assumption)); (case zl2 => exact Lw.kt_Ratio_Ratio (by assumption)); (case zl3 => walk_at "up")))
local macro_rules | `(tactic| walk_at "z") => `(tactic| ((with_reducible refine' z_nlR ?zl1 ?_); (case zl1 => exact Nat.le_of_ble_eq_true rfl); intro p H' hp hs he))
local macro_rules | `(tactic| walk_at "z") => `(tactic| with_reducible refine z_lstN ?_)
local macro_rules | `(tactic| walk_at "z") => `(tactic| with_reducible refine z_p6 ?_)
local macro_rules | `(tactic| walk_at "z") => `(tactic| with_reducible refine z_p12 ?_)
local macro_rules | `(tactic| walk_at "z") => `(tactic| with_reducible refine z_p13 ?_)
local macro_rules | `(tactic| walk_at "z") => `(tactic| with_reducible refine z_calln ?_)
local macro_rules | `(tactic| walk_at "z") => `(tactic| with_reducible refine z_xfS ?_)
local macro_rules | `(tactic| walk_at "z") => `(tactic| ((with_reducible refine' u_btw ?zl1 ?zl2 ?zl3 ?zl4 ?zl5 ?zl6 ?_); (case zl1 => walk_at "up"); (case zl2 => assumption); (case zl3 => omega); (case zl4 => omega); (case zl5 => omega); (case zl6 => omega)))

theorem u_ends {K : Frag} {p : Addr} {ns : List Int} {s : Int} {H : Hp} {Q : VK} {E : XK} (hS : SqL K H p (ns.map V.int)) (k : ∀ e H' lt lb ht hb, Same H H' → IsE H' e lt lb ht hb → EOk0 lt lb ht hb → Q (.ref e) H') : sp2 (fs_ends K) [.ref p, .int s] H Q E := ⟨_, _, rfl, p, ns, s, rfl, rfl, hS, k⟩
theorem u_best {K : Frag} {p e : Addr} {t s lt lb ht hb : Int} {H : Hp} {Q : VK} {E : XK} (h1 : IsR K H p t s) (h2 : IsE H e lt lb ht hb) (h3 : EOk lt lb ht hb) (h4 : lt * hb ≤ ht * lb) (h5 : S1.Best lt lb ht hb t s) (k : Q (.bl true) H) : sp2 (fs_best K) [.ref p, .ref e] H Q E := ⟨_, _, rfl, p, e, t, s, lt, lb, ht, hb, rfl, rfl, h1, h2, h3, h4, h5, k⟩
theorem u_simp {K : Frag} {p r : Addr} {lt lb ht hb : Int} {H : Hp} {Q : VK} {E : XK} (h1 : IsR K H p lt lb) (h2 : IsR K H r ht hb) (ok : SOk lt lb ht hb) (ho : lt * hb ≤ ht * lb) (k : ∀ q H' t s, Same H H' → IsR K H' q t s → S1.Best lt lb ht hb t s → Q (.ref q) H') : sp2 (fs_simp K) [.ref p, .ref r] H Q E :=
  ⟨_, _, rfl, p, r, lt, lb, ht, hb, rfl, rfl, h1, h2, ok, fun _ => k, fun z => absurd ho (by omega)⟩
theorem u_cr {K : Frag} {p r e : Addr} {lt lb ht hb : Int} {H : Hp} {Q : VK} {E : XK} (h1 : IsR K H p (rt lt lb) (rb lt lb)) (h2 : IsR K H r (rt ht hb) (rb ht hb)) (hE : IsE H e lt lb ht hb) (ok : EOk lt lb ht hb) (ho : lt * hb < ht * lb) (k : ∀ H', Same H H' → Q (.bl true) H') : sp3 (fs_cr K) [.ref p, .ref r, .ref e] H Q E :=
  ⟨_, _, _, rfl, p, r, e, lt, lb, ht, hb, rfl, rfl, rfl, h1, h2, hE, ok, ho, k⟩
theorem EOk.neg {lt lb ht hb : Int} (h : EOk lt lb ht hb) : EOk (-ht) hb (-lt) lb := by
  obtain ⟨b1, b2, c1, c2, l1, l2, g1, g2⟩ := h
  exact ⟨b2, b1, c2, c1, by omega, by omega, by omega, by omega⟩
/-- the best between reduced ends is the best between the ends -/
theorem best_red {lt lb ht hb t s : Int} (h1 : 1 ≤ lb) (h2 : 1 ≤ hb) (m : S1.Best (rt lt lb) (rb lt lb) (rt ht hb) (rb ht hb) t s) : S1.Best lt lb ht hb t s := by
  obtain ⟨x1, x2, x3⟩ := rt_spec (n := lt) (d := lb) (by omega)
  obtain ⟨y1, y2, y3⟩ := rt_spec (n := ht) (d := hb) (by omega)
  exact S1.best_scale (by omega) (by omega) h1 h2 x3 y3 m
theorem ord_red {lt lb ht hb : Int} (h1 : 1 ≤ lb) (h2 : 1 ≤ hb) (h : lt * hb ≤ ht * lb) : rt lt lb * rb ht hb ≤ rt ht hb * rb lt lb := by
  obtain ⟨x1, x2, x3⟩ := rt_spec (n := lt) (d := lb) (by omega)
  obtain ⟨y1, y2, y3⟩ := rt_spec (n := ht) (d := hb) (by omega)
  exact S1.red_le (show 0 < lb by omega) x1 (show 0 < hb by omega) y1 x3 y3 h
local macro_rules | `(tactic| walk_at "z") => `(tactic| ((with_reducible refine' u_best ?zl1 ?zl2 ?zl3 ?zl4 ?zl5 ?_); (case zl1 => walk_at "up"); (case zl2 => walk_at "up"); (case zl3 => assumption); (case zl4 => assumption); (case zl5 => assumption)))
local macro_rules | `(tactic| walk_at "z") => `(tactic| ((with_reducible refine' z_mkR2 ?zl1 ?zl2 ?zl3 ?_); (case zl1 => omega); (case zl2 => omega); (case zl3 => omega); intro p H' hs hr'))
section
variable {P : Program} {w : World} {K : Frag} {mg : Str → Option Value} {base : Heap}
theorem ok_law (L : Lw K mg) {fd : FuncData} (F : FunD K "law" "law" (defArgs s_law) (defBody s_law) (defScope s_law) (df_law.dvs K) (df_law.kws K) (He.fAd K ("law", none)) fd) : FnOk P w K mg base (L2N.CX P w) 6 (He.fAd K ("law", none)) fd (["script"] : List Str) (sp1 (fs_law K)) := by
  refine FunD.ok F sc_law len1 (fun cdv A outer s H vs Q E hr h => ?_)
  obtain ⟨a, rfl, h⟩ := h
  refine ⟨_, (pss_cons (ps_set (i := 0) sc_law.nd rfl (by first | exact Or.inl rfl | exact Or.inr rfl) (pe_slice sl_list (pv 0) po_none (po_some pe_int)))
    (pss_cons (ps_set (i := 1) sc_law.nd rfl (by first | exact Or.inl rfl | exact Or.inr rfl) (pe_c (c_law_mod (K := K) L) hr (by decide) (L2N.takes_of rfl rfl rfl rfl) (pa_cons (pe_c (c_law_cell (K := K) L) hr (by decide) (L2N.takes_of rfl rfl rfl rfl) (pa_cons (pv 0) (pa_cons pe_int pa_nil))) (pa_cons pe_int pa_nil))))
    (pss_cons (ps_set (i := 2) sc_law.nd rfl (by first | exact Or.inl rfl | exact Or.inr rfl) (pe_c (c_law_ends (K := K) L) hr (by decide) (L2N.takes_of rfl rfl rfl rfl) (pa_cons (pv 0) (pa_cons (pv 1) pa_nil))))
    (pss_cons (ps_set (i := 3) sc_law.nd rfl (by first | exact Or.inl rfl | exact Or.inr rfl) (pe_ix ix_seq (pv 2) pe_int (fun _ _ => rfl)))
    (pss_cons (ps_set (i := 4) sc_law.nd rfl (by first | exact Or.inl rfl | exact Or.inr rfl) (pe_ix ix_seq (pv 2) pe_int (fun _ _ => rfl)))
    (pss_cons (ps_set (i := 5) sc_law.nd rfl (by first | exact Or.inl rfl | exact Or.inr rfl) (pe_mk (c_RatioD_initD (K := K) L) hr (by decide) (L2N.takes_of rfl rfl rfl rfl) (pa_cons (pe_ix ix_seq (pv 3) pe_int (fun _ _ => rfl)) (pa_cons (pe_ix ix_seq (pv 3) pe_int (fun _ _ => rfl)) pa_nil))))
    (pss_cons (ps_set (i := 6) sc_law.nd rfl (by first | exact Or.inl rfl | exact Or.inr rfl) (pe_mk (c_RatioD_initD (K := K) L) hr (by decide) (L2N.takes_of rfl rfl rfl rfl) (pa_cons (pe_ix ix_seq (pv 4) pe_int (fun _ _ => rfl)) (pa_cons (pe_ix ix_seq (pv 4) pe_int (fun _ _ => rfl)) pa_nil))))
    (pss_cons (ps_set (i := 7) sc_law.nd rfl (by first | exact Or.inl rfl | exact Or.inr rfl) (pe_c (c_simplest (K := K) L) hr (by decide) (L2N.takes_of rfl rfl rfl rfl) (pa_cons (pv 5) (pa_cons (pv 6) pa_nil))))
    (pss_cons (ps_if (pt_not (pt_val (pe_c (c_law_best (K := K) L) hr (by decide) (L2N.takes_of rfl rfl rfl rfl) (pa_cons (pv 7) (pa_cons (pv 2) pa_nil))))) (pss_one (ps_ret pe_bl)) pss_nil)
    (pss_cons (ps_set (i := 8) sc_law.nd rfl (by first | exact Or.inl rfl | exact Or.inr rfl) (pe_tup (pa_cons (pe_fld (pv 7) rfl) (pa_cons (pe_fld (pv 7) rfl) pa_nil))))
    (pss_cons (ps_set (i := 9) sc_law.nd rfl (by first | exact Or.inl rfl | exact Or.inr rfl) (pe_ck0 (ck_simplest_0_high_low (K := K) L) hr (by decide) passF (pk_cons (pe_mk (c_RatioD_initD (K := K) L) hr (by decide) (L2N.takes_of rfl rfl rfl rfl) (pa_cons (pe_un o_neg (pe_ix ix_seq (pv 3) pe_int (fun _ _ => rfl))) (pa_cons (pe_ix ix_seq (pv 3) pe_int (fun _ _ => rfl)) pa_nil))) (pk_cons (pe_mk (c_RatioD_initD (K := K) L) hr (by decide) (L2N.takes_of rfl rfl rfl rfl) (pa_cons (pe_un o_neg (pe_ix ix_seq (pv 4) pe_int (fun _ _ => rfl))) (pa_cons (pe_ix ix_seq (pv 4) pe_int (fun _ _ => rfl)) pa_nil))) pk_nil))))
    (pss_cons (ps_if (pt_not (pt_val (pe_c (c_law_best (K := K) L) hr (by decide) (L2N.takes_of rfl rfl rfl rfl) (pa_cons (pv 9) (pa_cons (pe_tup (pa_cons (pe_tup (pa_cons (pe_un o_neg (pe_ix ix_seq (pv 4) pe_int (fun _ _ => rfl))) (pa_cons (pe_ix ix_seq (pv 4) pe_int (fun _ _ => rfl)) pa_nil))) (pa_cons (pe_tup (pa_cons (pe_un o_neg (pe_ix ix_seq (pv 3) pe_int (fun _ _ => rfl))) (pa_cons (pe_ix ix_seq (pv 3) pe_int (fun _ _ => rfl)) pa_nil))) pa_nil))) pa_nil))))) (pss_one (ps_ret pe_bl)) pss_nil)
    (pss_cons (ps_if (pt_not (pt_val (pe_c (c_law_is (K := K) L) hr (by decide) (L2N.takes_of rfl rfl rfl rfl) (pa_cons (pv 9) (pa_cons (pe_tup (pa_cons (pe_un o_neg (pe_ix ix_seq (pv 8) pe_int (fun _ _ => rfl))) (pa_cons (pe_ix ix_seq (pv 8) pe_int (fun _ _ => rfl)) pa_nil))) pa_nil))))) (pss_one (ps_ret pe_bl)) pss_nil)
    (pss_cons (ps_if (PW.pt (pw_or (pt_not (pt_val (pe_c (c_law_is (K := K) L) hr (by decide) (L2N.takes_of rfl rfl rfl rfl) (pa_cons (pe_c (c_simplest (K := K) L) hr (by decide) (L2N.takes_of rfl rfl rfl rfl) (pa_cons (pv 5) (pa_cons (pv 5) pa_nil))) (pa_cons (pv 3) pa_nil))))) (pw_or1 (pt_not (pt_val (pe_c (c_law_is (K := K) L) hr (by decide) (L2N.takes_of rfl rfl rfl rfl) (pa_cons (pe_c (c_simplest (K := K) L) hr (by decide) (L2N.takes_of rfl rfl rfl rfl) (pa_cons (pv 6) (pa_cons (pv 6) pa_nil))) (pa_cons (pv 4) pa_nil)))))))) (pss_one (ps_ret pe_bl)) pss_nil)
    (pss_cons (ps_if (pt_not (pt_val (pe_c (c_law_is (K := K) L) hr (by decide) (L2N.takes_of rfl rfl rfl rfl) (pa_cons (pe_c (c_simplest (K := K) L) hr (by decide) (L2N.takes_of rfl rfl rfl rfl) (pa_cons (pv 7) (pa_cons (pv 7) pa_nil))) (pa_cons (pv 8) pa_nil))))) (pss_one (ps_ret pe_bl)) pss_nil)
    (pss_cons (ps_if (pt_cmpR o_lt (pe_op o_mul (pe_ix ix_seq (pv 3) pe_int (fun _ _ => rfl)) (pe_ix ix_seq (pv 4) pe_int (fun _ _ => rfl))) (pe_op o_mul (pe_ix ix_seq (pv 4) pe_int (fun _ _ => rfl)) (pe_ix ix_seq (pv 3) pe_int (fun _ _ => rfl))) (nomark _)) (pss_one (ps_if (pt_not (pt_val (pe_c (c_law_crossed (K := K) L) hr (by decide) (L2N.takes_of rfl rfl rfl rfl) (pa_cons (pv 5) (pa_cons (pv 6) (pa_cons (pv 2) pa_nil)))))) (pss_one (ps_ret pe_bl)) pss_nil)) pss_nil)
    (pss_cons (ps_set (i := 10) sc_law.nd rfl (by first | exact Or.inl rfl | exact Or.inr rfl) (pe_tup (pa_cons (pe_op o_add (pe_ix ix_seq (pv 4) pe_int (fun _ _ => rfl)) (pe_ix ix_seq (pv 4) pe_int (fun _ _ => rfl))) (pa_cons (pe_ix ix_seq (pv 4) pe_int (fun _ _ => rfl)) pa_nil))))
    (pss_cons (ps_if (pt_not (pt_val (pe_c (c_law_crossed (K := K) L) hr (by decide) (L2N.takes_of rfl rfl rfl rfl) (pa_cons (pv 5) (pa_cons (pe_mk (c_RatioD_initD (K := K) L) hr (by decide) (L2N.takes_of rfl rfl rfl rfl) (pa_cons (pe_ix ix_seq (pv 10) pe_int (fun _ _ => rfl)) (pa_cons (pe_ix ix_seq (pv 10) pe_int (fun _ _ => rfl)) pa_nil))) (pa_cons (pe_tup (pa_cons (pv 3) (pa_cons (pv 10) pa_nil))) pa_nil)))))) (pss_one (ps_ret pe_bl)) pss_nil)
    (pss_cons (ps_if (pt_not (pt_val (pe_c (c_law_is (K := K) L) hr (by decide) (L2N.takes_of rfl rfl rfl rfl) (pa_cons (pe_c (c_simplest (K := K) L) hr (by decide) (L2N.takes_of rfl rfl rfl rfl) (pa_cons (pv 5) (pa_cons (pv 6) pa_nil))) (pa_cons (pv 8) pa_nil))))) (pss_one (ps_ret pe_bl)) pss_nil)
    (pss_one (ps_ret (pe_and (pe_c (c_law_is (K := K) L) hr (by decide) (L2N.takes_of rfl rfl rfl rfl) (pa_cons (pv 5) (pa_cons (pv 3) pa_nil))) (pe_one (pe_c (c_law_is (K := K) L) hr (by decide) (L2N.takes_of rfl rfl rfl rfl) (pa_cons (pv 6) (pa_cons (pv 4) pa_nil)))))))))))))))))))))))))), ?_⟩
  obtain ⟨ap, ns, rfl, hS, hl, k⟩ := h
  walk_at "z"
  walk_at "z"
  refine z_sl63 rfl hS hl (fun sc H0 s0 es => ?_)
  walk_at "zz"
  refine u_ends (by walk_at "up") (fun e H1 lt lb ht hb s1 hE ok0 => ?_)
  have ok := ok0.up
  have ho := ok0.ord
  have okn := ok.neg
  obtain ⟨b1, b2, c1, c2, l1, l2, g1, g2⟩ := id ok
  obtain ⟨x, y, e1, e2, e3⟩ := id hE
  walk_at "zz"
  rename_i pa Ha sa ha pb Hb sb hb'
  refine u_simp (by walk_at "up") (by walk_at "up") (sok ok) (ord_red b1 b2 ho) (fun f Hf t s sf hf m0 => ?_)
  have m := best_red b1 b2 m0
  obtain ⟨z1, z2, z3⟩ := S1.best_size (B := 1208925819614629174706176) b1 b2 ho l1 g2 c1 (by decide) m
  have bB : (1208925819614629174706176 : Int) * 1208925819614629174706176 = 1461501637330902918203684832716283019655932542976 := by decide
  rw [bB] at z2 z3
  have s1' := m.b1
  walk_at "zz"
  rename_i be Hbe _ sbe hbe ph Hph sph hph pl Hpl spl hpl
  refine ⟨rfl, rfl, ?_⟩
  have hon : -ht * lb ≤ -lt * hb := by
    rw [Int.neg_mul, Int.neg_mul]
    omega
  have ok0' := ok0
  refine u_simp (p := pl) (r := ph) (by walk_at "up") (by walk_at "up") (sok okn) (ord_red b2 b1 hon) (fun g Hg t' s' sg hg m0' => ?_)
  have m' := best_red b2 b1 m0'
  obtain ⟨et, es'⟩ := S1.best_one b2 b1 (S1.best_neg m) m'
  subst et
  subst es'
  walk_at "zz"
  refine u_best (lt := -ht) (lb := hb) (ht := -lt) (hb := lb) (by walk_at "up") ⟨_, _, by assumption, by walk_at "up", by walk_at "up"⟩ okn hon m' ?_
  walk_at "zz"
  have rln := rt_low (n := -t) (d := s) (by omega) m'.g
  have rl := rt_low (n := t) (d := s) (by omega) m.g
  obtain ⟨d1, d2, d3, d4, d5, d6, d7, d8, _⟩ := id ok0
  refine u_is (by walk_at "up") (by walk_at "up") (by omega) (by omega) (fun v1 v1h => ?_)
  rw [of_iff v1h ⟨rln.1.symm, rln.2.symm⟩]
  walk_at "zz"
  obtain ⟨x1, x2, x3⟩ := rt_spec (n := lt) (d := lb) (by omega)
  obtain ⟨y1, y2, y3⟩ := rt_spec (n := ht) (d := hb) (by omega)
  refine u_simp (by walk_at "up") (by walk_at "up") (sok (⟨b1, b1, c1, c1, l1, l2, l1, l2⟩ : EOk lt lb lt lb)) (Int.le_refl _) (fun f1 Hf1 t1 s1 sf1 hf1 m1 => ?_)
  obtain ⟨q1, q2⟩ := S1.best_one x1 x1 (S1.best_point x1 x2) m1
  subst q1; subst q2
  walk_at "zz"
  refine u_is (by walk_at "up") (by walk_at "up") (by omega) (by omega) (fun v2 v2h => ?_)
  rw [of_iff v2h ⟨rfl, rfl⟩]
  walk_at "zz"
  refine u_simp (by walk_at "up") (by walk_at "up") (sok (⟨b2, b2, c2, c2, g1, g2, g1, g2⟩ : EOk ht hb ht hb)) (Int.le_refl _) (fun f2 Hf2 t2 s2 sf2 hf2 m2 => ?_)
  obtain ⟨q1, q2⟩ := S1.best_one y1 y1 (S1.best_point y1 y2) m2
  subst q1; subst q2
  walk_at "zz"
  refine u_is (by walk_at "up") (by walk_at "up") (by omega) (by omega) (fun v3 v3h => ?_)
  rw [of_iff v3h ⟨rfl, rfl⟩]
  walk_at "zz"
  refine u_simp (by walk_at "up") (by walk_at "up") ⟨s1', s1', by omega, by omega, by omega, by omega, by omega, by omega, m.g, m.g⟩ (Int.le_refl _) (fun f3 Hf3 t3 s3 sf3 hf3 m3 => ?_)
  obtain ⟨q1, q2⟩ := S1.best_one s1' s1' (S1.best_point s1' m.g) m3
  subst q1; subst q2
  walk_at "zz"
  refine u_is (by walk_at "up") (by walk_at "up") (by omega) (by omega) (fun v4 v4h => ?_)
  rw [of_iff v4h ⟨rl.1.symm, rl.2.symm⟩]
  walk_at "zz"
  refine z_d2 (fun c => ?_) (fun c => ?_)
  · walk_at "zz"
    refine u_cr (by walk_at "up") (by walk_at "up") (by walk_at "up") ok c (fun Hc sc' => ?_)
    walk_at "zz"
    rename_i mo Hmo _ smo hmo pm Hpm spm hpm ee Hee _ see hee
    refine u_cr (lt := lt) (lb := lb) (ht := ht + hb) (hb := hb) (by walk_at "up") (by walk_at "up") ⟨x, mo, by assumption, by walk_at "up", by walk_at "up"⟩ ⟨b1, b2, c1, c2, l1, l2, by omega, by omega⟩ (by
      have q1 : (ht + hb) * lb = ht * lb + hb * lb := Int.add_mul ..
      have q2 : 0 < hb * lb := Int.mul_pos (by omega) (by omega)
      omega) (fun Hc2 sc2 => ?_)
    walk_at "zz"
    refine u_simp (by walk_at "up") (by walk_at "up") (sok ok) (ord_red b1 b2 ho) (fun f4 Hf4 t4 s4 sf4 hf4 m4 => ?_)
    obtain ⟨q1, q2⟩ := S1.best_one b1 b2 m (best_red b1 b2 m4)
    subst q1; subst q2
    walk_at "zz"
    refine u_is (by walk_at "up") (by walk_at "up") (by omega) (by omega) (fun w1 w1h => ?_)
    rw [of_iff w1h ⟨rl.1.symm, rl.2.symm⟩]
    walk_at "zz"
    refine u_is (by walk_at "up") (by walk_at "up") (by omega) (by omega) (fun w2 w2h => ?_)
    rw [of_iff w2h ⟨rfl, rfl⟩]
    walk_at "zz"
    refine u_is (by walk_at "up") (by walk_at "up") (by omega) (by omega) (fun w3 w3h => ?_)
    rw [of_iff w3h ⟨rfl, rfl⟩]
    walk_at "zz"
    exact k _
  · walk_at "zz"
    rename_i mo Hmo _ smo hmo pm Hpm spm hpm ee Hee _ see hee
    refine u_cr (lt := lt) (lb := lb) (ht := ht + hb) (hb := hb) (by walk_at "up") (by walk_at "up") ⟨x, mo, by assumption, by walk_at "up", by walk_at "up"⟩ ⟨b1, b2, c1, c2, l1, l2, by omega, by omega⟩ (by
      have q1 : (ht + hb) * lb = ht * lb + hb * lb := Int.add_mul ..
      have q2 : 0 < hb * lb := Int.mul_pos (by omega) (by omega)
      omega) (fun Hc2 sc2 => ?_)
    walk_at "zz"
    refine u_simp (by walk_at "up") (by walk_at "up") (sok ok) (ord_red b1 b2 ho) (fun f4 Hf4 t4 s4 sf4 hf4 m4 => ?_)
    obtain ⟨q1, q2⟩ := S1.best_one b1 b2 m (best_red b1 b2 m4)
    subst q1; subst q2
    walk_at "zz"
    refine u_is (by walk_at "up") (by walk_at "up") (by omega) (by omega) (fun w1 w1h => ?_)
    rw [of_iff w1h ⟨rl.1.symm, rl.2.symm⟩]
    walk_at "zz"
    refine u_is (by walk_at "up") (by walk_at "up") (by omega) (by omega) (fun w2 w2h => ?_)
    rw [of_iff w2h ⟨rfl, rfl⟩]
    walk_at "zz"
    refine u_is (by walk_at "up") (by walk_at "up") (by omega) (by omega) (fun w3 w3h => ?_)
    rw [of_iff w3h ⟨rfl, rfl⟩]
    walk_at "zz"
    exact k _
theorem c_law (L : Lw K mg) : Cal P w K mg base 6 "law" (sp1 (fs_law K)) [] := by
  obtain ⟨fd, F⟩ := L.d_law
  exact ⟨⟨_, fd, ["script"], [], ok_law L F, L.g_law, F.kp, F.bindsN (fun _ _ _ _ _ _ us hl => match us, hl with | [_], _ => rfl), .nil⟩⟩
end
end T

set_option maxHeartbeats 0
namespace T
open PySem PySem.Spec PyProof.Rows L2 Z
abbrev R : PySem.W.OpenRow := PySem.W.OpenLaw.row PySem.Challenge.rw_belownought_k01_simplest_between
abbrev hk : PySem.W.Hook := hookZ 6 fb fn
def ob (st : PySem.W.SharedT) : SeenZ := seenG 6 fb fn (HandSHeadRun.getT st)
theorem ob_eq (st : PySem.W.SharedT) : ob st = hk.obs st.abs := seenG_eq (HandSHeadRun.getT_eq st)
def loose : List Str := (["_wall", "__name__", "NoughtError", "ZeroBottom", "BadText", "Crossed", "Ratio", "read_whole", "read_fraction", "simplest", "simplest_above", "_law_cell", "_law_mod", "_law_signed", "_law_common", "_law_fraction", "_law_ends", "_law_whole", "_law_is", "_law_between", "_law_none_lesser", "_law_inverse", "_law_neighbours", "_law_best", "_law_crossed"] : List Str)
theorem run (w : World) : HandSHeadRun.RunEqI R (PySem.W.view R.prog [0, 29]) hk ob 3000 loose w := by
  unfold HandSHeadRun.RunEqI
  kernel_rfl
end T
open PySem PySem.W PySem.Calls PyProof.Rows
theorem PySem.Challenge.cw_belownought_k01_simplest_between_holds : PySem.Challenge.rw_belownought_k01_simplest_between.Holds := by
  w_on; o_law
  refine HandSHeadRun.head_imp (r := T.R) (q := view T.R.prog [0, 29]) (H := T.hk) (ob := T.ob) (M := 3000) (loose := T.loose) (d := HandSHeadRun.topDef T.R.prog 29) (kwd := []) T.ob_eq T.run
    (by kernel_rfl) (by kernel_rfl) (by kernel_rfl) (by rfl) (by first | assumption | decide +kernel) (by decide +kernel) ⟨rfl, rfl, rfl, rfl, rfl, by decide +kernel⟩ ?hw ?hc
  case hw => w_witness2
  case hc =>
    refine L2.walk_ofE (l := PySem.Challenge.rw_belownought_k01_simplest_between) (n := 63) (k := 7) (x := "script") (CX := L2.CX0) rfl (by decide) (by kernel_rfl) ⟨rfl, by decide, by decide⟩ ?F (fun _ _ _ _ z => z)
    case F =>
      intro w mg fa h Y G hmg0
      obtain ⟨K, KX, c⟩ := Y
      have hmg : mg ("law" : PySem.Str) = some (.ref fa) := by
        have e : (HandSHeadRun.topDef T.R.prog 29).name = ("law" : PySem.Str) := by kernel_rfl
        rw [← e]
        exact hmg0
      have L : T.Lw K mg := ⟨⟨h, KX, G⟩, c⟩
      obtain ⟨fd, F⟩ := L.d_law
      have e := hmg.symm.trans L.g_law
      cases e
      refine ⟨K, fd, Z.sp1 (Z.fs_law K), KX, fun s v => F.bindsA (ps := ["script"]) (fun _ _ _ _ _ _ us hl => match us, hl with | [_], _ => rfl) s [v] rfl, fun H a ns hl _ hS => ⟨_, rfl, a, ns, rfl, hS, hl, fun _ => rfl⟩, fun base _ _ => ?_⟩
      exact Z.law_quiet (T.ok_law L F) (by decide)

