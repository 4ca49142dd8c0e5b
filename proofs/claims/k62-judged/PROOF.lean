import PyProof.Rows.All
import Wide.All
import OpenK.AllK
import Wide.FinOn
import HandS.ForMost
import HandS.Exc
import HandS.ExcOwn
import HandS.WordsExc
import HandS.CallSlots
import HandS.TryOnly
import HandS.TryMany
import HandS.Gcd
import HandS.ExcInit
import HandS.IsInst
import HandS.Defaults
import HandS.MakeKw
import HandS.Wide
import HandS.HotCalls
import HandS.ExcIs
import HandS.ExcField
import HandS.Flow
import HandS.Style
import HandS.Head0
import HandS.Head1
import HandS.Head2
import HandS.Head3
import HandS.HeadEnd
import HandS.HeadHook1
import HandS.HeadHook2
import KE.KExcIs
import HandS.Walk
import KE.KMathGC
import KE.GoesEnum
import HandS.HeadNt
import HandS.WideBits
import Flt.RightSqrt
import HandS.OwnEq
import HandS.Property
import HandS.ExcCtx
import PySem.Challenge.RW_belownought_k62_six_papers_judged
set_option Elab.async false
set_option linter.all false
set_option maxRecDepth 100000
set_option maxHeartbeats 4000000
namespace Z
open PySem PySem.Spec PyProof.Rows L2
end Z
set_option maxHeartbeats 4000000
namespace Z
open PySem PySem.Spec PyProof.Rows L2
section
variable {X : Cx} {k j : Nat} {C : Addr} {sp : Sp} {W : WX} {x : Str} {p pos : Pos} {e : Expr} {es : List Expr} {t : TA}
/-- a size of bits -/
def Bits (n : Nat) (i : Int) : Prop := i.natAbs < 2 ^ n
end
end Z
set_option maxHeartbeats 4000000
namespace Z
open PySem PySem.Spec PyProof.Rows L2
abbrev Frag := PySem.W.Frag
abbrev Chk := Frag → Bool
abbrev SeenZ : Type := Bool × List He.FnW
def cGlo (x : Str) : Chk := fun K => (He.Fa.glo x).ok K
def cFree (x : Str) : Chk := fun K => (He.Fa.free x).ok K
def cVal (x : Str) (id : String) : Chk := fun K => He.eqO (PySem.W.nsIn K mainGlobals x) (some (some (.builtin id)))
def cCls (x : Str) : Chk := fun K => (He.Fa.cls x).ok K
def cNo (x f : Str) : Chk := fun K => (He.Fa.noat x f).ok K
def cMeth (x m : Str) : Chk := fun K => (He.Fa.meth x m).ok K
def cMk (x : Str) : Chk := fun K => (He.Fa.mkr x).ok K
def cExc0 (x : Str) : Chk := fun K => (He.Fa.exc x).ok K
def cExm (x y : Str) (b : Bool) : Chk := fun K => (He.Fa.exm x y b).ok K
def cSelf (x : Str) : Chk := fun K => PySem.W.selfFirst K (He.ga K x)
/-- an exception class whose own __init__ is walked -/
def oexB (K : Frag) (C : Addr) : Bool := match K.lookup C with
  | some ⟨.type t, _, .cls cd, sl⟩ => (match cd.mro, sl.toList with
    | .ref C' :: bm, [_, _, _, _, some (.builtin n), _] => decide (t = "type") && (decide (C' = C) && (decide (n = "ValueError.__new__") && (!cd.hasDel && (cd.hasDict && PySem.HandSPX.refsVE bm))))
    | _, _ => false)
  | _ => false
def cOex (x : Str) : Chk := fun K => oexB K (He.ga K x) && (He.eqO (PySem.W.findIn K (.ref (He.ga K x)) "__setattr__") (some (some (.builtin "object.__setattr__"))) && (decide (PySem.W.subIn K (.ref (He.ga K x)) (.type "BaseException") = some true) &&
  (decide (PySem.W.typeIn K (.ref (He.ga K x)) = some (.type "type")) && (PySem.W.keepIn K (.ref (He.ga K x)) && (He.eqO (PySem.W.findIn K (.ref (He.ga K x)) "__init__") (some (some (.ref (He.ma K (He.ga K x) "__init__")))) && decide (PySem.W.typeIn K (.ref (He.ma K (He.ga K x) "__init__")) = some (.type "function")))))))
/-- an exception of this class caught: its fields, isinstance -/
def cExcC (x : Str) : Chk := fun K => He.eqO (PySem.W.findIn K (.ref (He.ga K x)) "__getattribute__") (some (some (.builtin "BaseException.__getattribute__"))) && (He.eqO (PySem.W.findIn K (.ref (He.ga K x)) "__getattr__") (some none) && (decide (PySem.W.subIn K (.ref (He.ga K x)) (.type "BaseException") = some true) &&
  (PySem.W.hasDictIn K (He.ga K x) && (He.eqO (PySem.W.findIn K (.ref (He.ga K x)) "__class__") (some (some (.builtin "object.__class__"))) && (decide (PySem.W.specialIn K (.builtin "object.__class__") "__get__" = some (some (.builtin "getset_descriptor.__get__"))) &&
  (decide (PySem.W.takesIn K (.builtin "object.__class__") = some true) && decide (PySem.W.mroIn K (He.ga K x) (.type "object") = some true)))))))
def cIns (x : Str) : Chk := fun K => (He.Fa.cls x).ok K && (He.eqO (PySem.W.findIn K (.ref (He.ga K x)) "__class__") (some (some (.builtin "object.__class__"))) && (decide (PySem.W.specialIn K (.builtin "object.__class__") "__get__" = some (some (.builtin "getset_descriptor.__get__"))) &&
  (decide (PySem.W.takesIn K (.builtin "object.__class__") = some true) && decide (PySem.W.mroIn K (He.ga K x) (.type "object") = some true))))
/-- isinstance's answer for an instance of x asked for the class y; for a value of the built-in type t asked for y; for an instance of x asked for the built-in type t -/
def cKit (x y : Str) (b : Bool) : Chk := fun K => decide (PySem.W.kitOne K (.ref (He.ga K x)) (.ref (He.ga K y)) = some b)
end Z
namespace Z
open PySem PySem.Spec PyProof.Rows L2
end Z
set_option maxHeartbeats 4000000
namespace Z
open PySem PySem.Spec PyProof.Rows L2
end Z
set_option maxHeartbeats 4000000
namespace Z
open PySem PySem.Spec PyProof.Rows L2
end Z
namespace Z
open PySem PySem.Spec PyProof.Rows L2
end Z
set_option maxHeartbeats 4000000
namespace Z
open PySem PySem.Spec PyProof.Rows L2
end Z
namespace Z
open PySem PySem.Spec PyProof.Rows L2
end Z
set_option maxHeartbeats 4000000
namespace Z
open PySem PySem.Spec PyProof.Rows L2
end Z
set_option maxHeartbeats 4000000
namespace Z
open PySem PySem.Spec PyProof.Rows L2
end Z
namespace Z
open PySem PySem.Spec PyProof.Rows L2
end Z
namespace Z
open PySem PySem.Spec PyProof.Rows L2
end Z
namespace Z
open PySem PySem.Spec PyProof.Rows L2
end Z
namespace Z
open PySem PySem.Spec PyProof.Rows L2
end Z
namespace Z
open PySem PySem.Spec PyProof.Rows L2
end Z
set_option maxHeartbeats 4000000
namespace Z
open PySem PySem.Spec PyProof.Rows L2
end Z
set_option maxHeartbeats 4000000
namespace Z
open PySem PySem.Spec PyProof.Rows L2
end Z
set_option maxHeartbeats 4000000
namespace Z
open PySem PySem.Spec PyProof.Rows L2
end Z
set_option maxHeartbeats 4000000
namespace Z
open PySem PySem.Spec PyProof.Rows L2
section
variable {K : Frag} {H : Hp} {Q : VK}
theorem Bits.le {a : Nat} {i j : Int} (h : Bits a j) (hi : i.natAbs ≤ j.natAbs) : Bits a i := Nat.lt_of_le_of_lt hi h
theorem Bits.mod {a : Nat} {i j : Int} (h : Bits a j) (h0 : 0 < j) : Bits a (i % j) := by
  refine h.le ?_
  have := Int.emod_nonneg i (show j ≠ 0 by omega)
  have := Int.emod_lt_of_pos i h0
  omega
end
end Z
set_option maxHeartbeats 4000000
namespace Z
open PySem PySem.Spec PyProof.Rows L2
def seenK2 (fb : List Chk) (fn : List He5.DefA) (K : Frag) : SeenZ := ((fb.all fun c => c K) && fn.all fun d => d.ok K, fn.map fun d => He5.fnA K (d.at_ K))
def dueK2 (fn : List He5.DefA) : SeenZ := (true, fn.map He5.DefA.val)
def Says2 (fb : List Chk) (fn : List He5.DefA) (K : Frag) : Prop := seenK2 fb fn K = dueK2 fn
/-- a class whose attributes are read by their names; a staticmethod of it -/
def cRead (x : Str) : Chk := fun K => PySem.W.readsIn K (He.ga K x) (.type "type") && He.eqO (PySem.W.specialIn K (.ref (He.ga K x)) "__getattribute__") (some (some (.builtin "type.__getattribute__")))
def cStat (x m : Str) : Chk := fun K => He5.wrapB K (He.ga K x) "staticmethod" "staticmethod.__get__" m
end Z
set_option maxHeartbeats 4000000
namespace Z
open PySem PySem.Spec PyProof.Rows L2
theorem map_three {α β γ δ : Type} {o : Option α} {f : α → β} {g : α → γ} {h : α → δ} {a : β} {b : γ} {c : δ} (h1 : o.map f = some a) (h2 : o.map g = some b) (h3 : o.map h = some c) : o.map (fun x => (f x, g x, h x)) = some (a, b, c) := by
  cases o with
  | none => cases h1
  | some x =>
    cases h1
    cases h2
    cases h3
    rfl
end Z
set_option maxHeartbeats 4000000
namespace Z
open PySem PySem.Spec PyProof.Rows L2
end Z
set_option maxHeartbeats 4000000
namespace Z
open PySem PySem.Spec PyProof.Rows L2
end Z
set_option maxHeartbeats 4000000
namespace Z
open PySem PySem.Spec PyProof.Rows L2
end Z
set_option maxHeartbeats 4000000
namespace Z
open PySem PySem.Spec PyProof.Rows L2
/-- those that the mask does not hold, each once -/
def newB {α : Type} : List Addr → Nat → List Addr → (List Addr → Nat → α) → α
  | [], m, acc, k => k acc m
  | a :: r, m, acc, k => HandSHeadRun.frNat a fun a => match Nat.beq (Nat.mod (Nat.shiftRight m a) 2) 1 with
    | true => newB r m acc k
    | false => HandSHeadRun.frNat (Nat.lor m (Nat.shiftLeft 1 a)) fun m => newB r m (a :: acc) k
def asB (g : Addr → Option Obj) : Nat → List Addr → Nat → List Addr → List Addr
  | 0, _, _, acc => acc
  | n + 1, fr, m, acc => newB (fr.flatMap fun a => match g a with
    | some o => He.refsD o
    | none => []) m [] fun nw m => asB g n nw m (nw ++ acc)
def seenG3 (n : Nat) (fb : List Chk) (fn : List He5.DefA) (g : Addr → Option Obj) : SeenZ := seenK2 fb fn (He.frG g (asB g n [mainGlobals] (Nat.shiftLeft 1 mainGlobals) [cStatics, mainGlobals]).reverse)
def hookZ3 (n : Nat) (fb : List Chk) (fn : List He5.DefA) : PySem.W.Hook where
  α := SeenZ
  val := fun _ => dueK2 fn
  obs := fun st => seenG3 n fb fn st.heap.get?
  says := fun _ hp => ∃ K : Frag, K.In hp ∧ Says2 fb fn K
  keeps := fun _ _ _ ⟨K, hin, c⟩ kp => ⟨K, PySem.W.Frag.In.keeps hin kp, c⟩
  of := fun _ _ eq => ⟨_, He.frG_in, eq⟩
theorem seen_both3 {α : Type} {o : Option α} {g : α → Addr → Option Obj} {n : Nat} {fb1 fb2 : List Chk} {fn1 fn2 : List He5.DefA} (h1 : o.map (fun x => seenG3 n fb1 fn1 (g x)) = some (dueK2 fn1)) (h2 : o.map (fun x => seenG3 n fb2 fn2 (g x)) = some (dueK2 fn2)) :
    o.map (fun x => seenG3 n (fb1 ++ fb2) (fn1 ++ fn2) (g x)) = some (dueK2 (fn1 ++ fn2)) := by
  cases o with
  | none => cases h1
  | some x =>
    have e1 : seenG3 n fb1 fn1 (g x) = dueK2 fn1 := Option.some.inj h1
    have e2 : seenG3 n fb2 fn2 (g x) = dueK2 fn2 := Option.some.inj h2
    show some (seenG3 n (fb1 ++ fb2) (fn1 ++ fn2) (g x)) = _
    unfold seenG3 seenK2 dueK2 at *
    have a1 := congrArg (fun z : SeenZ => z.1) e1
    have a2 := congrArg (fun z : SeenZ => z.1) e2
    have b1 := congrArg (fun z : SeenZ => z.2) e1
    have b2 := congrArg (fun z : SeenZ => z.2) e2
    dsimp only at a1 a2 b1 b2
    obtain ⟨c1, c2⟩ := He.ba a1
    obtain ⟨d1, d2⟩ := He.ba a2
    rw [List.all_append, List.all_append, List.map_append, List.map_append, c1, c2, d1, d2, b1, b2]
    rfl
end Z
set_option maxHeartbeats 4000000
namespace Z
open PySem PySem.Spec PyProof.Rows L2
end Z
set_option maxHeartbeats 4000000
namespace Z
open PySem PySem.Spec PyProof.Rows L2
def cCon (x f v : Str) : Chk := fun K => (match PySem.W.findIn K (.ref (He.ga K x)) f with
  | some (some (.str s t)) => decide (s = v) && decide (PySem.W.specialIn K (.str s t) "__get__" = some none)
  | _ => false) && !PySem.W.copiedNames.contains f
def cPrp (x m : Str) : Chk := fun K => He.eqO (PySem.W.findIn K (.ref (He.ga K x)) m) (some (some (.ref (He.ma K (He.ga K x) m)))) && (decide (PySem.W.specialIn K (.ref (He.ma K (He.ga K x) m)) "__get__" = some (some (.builtin "property.__get__"))) &&
  (decide (PySem.W.takesIn K (.ref (He.ma K (He.ga K x) m)) = some true) && (match PySem.W.recIn K (He.ma K (He.ga K x) m) "property" with
    | some (.ref _ :: _) => true
    | _ => false)))
end Z
set_option maxHeartbeats 4000000
namespace Z
open PySem PySem.Spec PyProof.Rows L2
end Z
set_option maxHeartbeats 4000000
namespace Z
open PySem PySem.Spec PyProof.Rows L2
end Z
set_option maxHeartbeats 0
namespace T
open PySem PySem.Spec PyProof.Rows L2 Z
def topS (i : Nat) : Stmt := PySem.Challenge.pw_belownought_k62_six_papers_judged.main.body.getD i (.Pass ⟨0, 0, 0, 0⟩)
abbrev s_OutOfBoundsD_initD : Stmt := inClass (topS 6) 0
abbrev s_check_number : Stmt := topS 13
abbrev s_BadSizeD_initD : Stmt := inClass (topS 7) 0
abbrev s_check_size : Stmt := topS 14
abbrev s_lowest_terms : Stmt := topS 32
abbrev s_PolyD_initD : Stmt := inClass (topS 31) 0
abbrev s_quadratic_of : Stmt := topS 49
abbrev s_SixClaim_quadratic : Stmt := inClass (topS 47) 3
abbrev s_whole_three : Stmt := topS 50
abbrev s_first_below : Stmt := topS 51
abbrev s_SixClaim_holds : Stmt := inClass (topS 47) 5
abbrev s_PolyD_eqD : Stmt := inClass (topS 31) 9
abbrev s_SixPaper_is_squares : Stmt := inClass (topS 48) 1
abbrev s_RatioD_initD : Stmt := inClass (topS 16) 0
abbrev s_SixClaimD_initD : Stmt := inClass (topS 47) 0
abbrev s_law_claim : Stmt := topS 118
abbrev s_law_flag : Stmt := topS 111
abbrev s_law_whole : Stmt := topS 110
abbrev s_law_fraction : Stmt := topS 112
abbrev s_law_is : Stmt := topS 113
abbrev s_SixPaperD_initD : Stmt := inClass (topS 48) 0
abbrev s_law_made : Stmt := topS 119
abbrev s_CutPaper_shows : Stmt := inClass (topS 99) 1
abbrev s_Poly_made : Stmt := inClass (topS 31) 1
abbrev s_poly_sum : Stmt := topS 33
abbrev s_PolyD_addD : Stmt := inClass (topS 31) 5
abbrev s_Poly_scaled : Stmt := inClass (topS 31) 10
abbrev s_Ratio_sign : Stmt := inClass (topS 16) 11
abbrev s_block_poly : Stmt := topS 53
abbrev s_is_never_below : Stmt := topS 52
abbrev s_SixPaper_shows : Stmt := inClass (topS 48) 2
abbrev s_judge : Stmt := topS 45
abbrev s_law_says : Stmt := topS 120
abbrev s_law_ask : Stmt := topS 121
abbrev s_law_at : Stmt := topS 116
abbrev s_law_holds : Stmt := topS 117
abbrev s_law_block : Stmt := topS 114
abbrev s_law_sum : Stmt := topS 115
abbrev s_law_built : Stmt := topS 122
abbrev s_law_bent_blocks : Stmt := topS 124
abbrev s_law_bent_claims : Stmt := topS 125
abbrev s_law_bent_parts : Stmt := topS 123
abbrev s_law_cell : Stmt := topS 107
abbrev s_law_draw : Stmt := topS 108
abbrev s_law_letters : Stmt := topS 109
abbrev s_law_long_rests : Stmt := topS 126
abbrev s_CrossedD_initD : Stmt := inClass (topS 8) 0
abbrev s_Ratio_compare : Stmt := inClass (topS 16) 10
abbrev s_CutPaperD_initD : Stmt := inClass (topS 99) 0
abbrev s_FourClaimD_initD : Stmt := inClass (topS 103) 0
abbrev s_TooHighD_initD : Stmt := inClass (topS 10) 0
abbrev s_LineClaimD_initD : Stmt := inClass (topS 98) 0
abbrev s_PieceD_initD : Stmt := inClass (topS 55) 0
abbrev s_law_other_sorts : Stmt := topS 127
abbrev s_law_refused : Stmt := topS 128
abbrev s_law : Stmt := topS 129
def df_OutOfBoundsD_initD : He5.DefA := ⟨fun K => He.fAd K ("OutOfBounds", some "__init__"), "__init__", "OutOfBounds.__init__", defArgs s_OutOfBoundsD_initD, defBody s_OutOfBoundsD_initD, defScope s_OutOfBoundsD_initD, [], []⟩
def df_check_number : He5.DefA := ⟨fun K => He.fAd K ("check_number", none), "check_number", "check_number", defArgs s_check_number, defBody s_check_number, defScope s_check_number, [.non], []⟩
def df_BadSizeD_initD : He5.DefA := ⟨fun K => He.fAd K ("BadSize", some "__init__"), "__init__", "BadSize.__init__", defArgs s_BadSizeD_initD, defBody s_BadSizeD_initD, defScope s_BadSizeD_initD, [], []⟩
def df_check_size : He5.DefA := ⟨fun K => He.fAd K ("check_size", none), "check_size", "check_size", defArgs s_check_size, defBody s_check_size, defScope s_check_size, [], []⟩
def df_lowest_terms : He5.DefA := ⟨fun K => He.fAd K ("lowest_terms", none), "lowest_terms", "lowest_terms", defArgs s_lowest_terms, defBody s_lowest_terms, defScope s_lowest_terms, [], []⟩
def df_PolyD_initD : He5.DefA := ⟨fun K => He.fAd K ("Poly", some "__init__"), "__init__", "Poly.__init__", defArgs s_PolyD_initD, defBody s_PolyD_initD, defScope s_PolyD_initD, [.int 1], []⟩
def df_quadratic_of : He5.DefA := ⟨fun K => He.fAd K ("quadratic_of", none), "quadratic_of", "quadratic_of", defArgs s_quadratic_of, defBody s_quadratic_of, defScope s_quadratic_of, [], []⟩
def df_SixClaim_quadratic : He5.DefA := ⟨fun K => He.fAd K ("SixClaim", some "quadratic"), "quadratic", "SixClaim.quadratic", defArgs s_SixClaim_quadratic, defBody s_SixClaim_quadratic, defScope s_SixClaim_quadratic, [], []⟩
def df_whole_three : He5.DefA := ⟨fun K => He.fAd K ("whole_three", none), "whole_three", "whole_three", defArgs s_whole_three, defBody s_whole_three, defScope s_whole_three, [], []⟩
def df_first_below : He5.DefA := ⟨fun K => He.fAd K ("first_below", none), "first_below", "first_below", defArgs s_first_below, defBody s_first_below, defScope s_first_below, [], []⟩
def df_SixClaim_holds : He5.DefA := ⟨fun K => He.fAd K ("SixClaim", some "holds"), "holds", "SixClaim.holds", defArgs s_SixClaim_holds, defBody s_SixClaim_holds, defScope s_SixClaim_holds, [], []⟩
def df_PolyD_eqD : He5.DefA := ⟨fun K => He.fAd K ("Poly", some "__eq__"), "__eq__", "Poly.__eq__", defArgs s_PolyD_eqD, defBody s_PolyD_eqD, defScope s_PolyD_eqD, [], []⟩
def df_SixPaper_is_squares : He5.DefA := ⟨fun K => He5.wf K (He.ga K "SixPaper") "property" "is_squares", "is_squares", "SixPaper.is_squares", defArgs s_SixPaper_is_squares, defBody s_SixPaper_is_squares, defScope s_SixPaper_is_squares, [], []⟩
def df_RatioD_initD : He5.DefA := ⟨fun K => He.fAd K ("Ratio", some "__init__"), "__init__", "Ratio.__init__", defArgs s_RatioD_initD, defBody s_RatioD_initD, defScope s_RatioD_initD, [.int 1], []⟩
def df_SixClaimD_initD : He5.DefA := ⟨fun K => He.fAd K ("SixClaim", some "__init__"), "__init__", "SixClaim.__init__", defArgs s_SixClaimD_initD, defBody s_SixClaimD_initD, defScope s_SixClaimD_initD, [], []⟩
def df_law_claim : He5.DefA := ⟨fun K => He.fAd K ("_law_claim", none), "_law_claim", "_law_claim", defArgs s_law_claim, defBody s_law_claim, defScope s_law_claim, [], []⟩
def df_law_flag : He5.DefA := ⟨fun K => He.fAd K ("_law_flag", none), "_law_flag", "_law_flag", defArgs s_law_flag, defBody s_law_flag, defScope s_law_flag, [], []⟩
def df_law_whole : He5.DefA := ⟨fun K => He.fAd K ("_law_whole", none), "_law_whole", "_law_whole", defArgs s_law_whole, defBody s_law_whole, defScope s_law_whole, [], []⟩
def df_law_fraction : He5.DefA := ⟨fun K => He.fAd K ("_law_fraction", none), "_law_fraction", "_law_fraction", defArgs s_law_fraction, defBody s_law_fraction, defScope s_law_fraction, [], []⟩
def df_law_is : He5.DefA := ⟨fun K => He.fAd K ("_law_is", none), "_law_is", "_law_is", defArgs s_law_is, defBody s_law_is, defScope s_law_is, [], []⟩
def df_SixPaperD_initD : He5.DefA := ⟨fun K => He.fAd K ("SixPaper", some "__init__"), "__init__", "SixPaper.__init__", defArgs s_SixPaperD_initD, defBody s_SixPaperD_initD, defScope s_SixPaperD_initD, [], []⟩
def df_law_made : He5.DefA := ⟨fun K => He.fAd K ("_law_made", none), "_law_made", "_law_made", defArgs s_law_made, defBody s_law_made, defScope s_law_made, [], []⟩
def df_CutPaper_shows : He5.DefA := ⟨fun K => He.fAd K ("CutPaper", some "shows"), "shows", "CutPaper.shows", defArgs s_CutPaper_shows, defBody s_CutPaper_shows, defScope s_CutPaper_shows, [], []⟩
def df_Poly_made : He5.DefA := ⟨fun K => He5.wf K (He.ga K "Poly") "staticmethod" "made", "made", "Poly.made", defArgs s_Poly_made, defBody s_Poly_made, defScope s_Poly_made, [], []⟩
def df_poly_sum : He5.DefA := ⟨fun K => He.fAd K ("poly_sum", none), "poly_sum", "poly_sum", defArgs s_poly_sum, defBody s_poly_sum, defScope s_poly_sum, [], []⟩
def df_PolyD_addD : He5.DefA := ⟨fun K => He.fAd K ("Poly", some "__add__"), "__add__", "Poly.__add__", defArgs s_PolyD_addD, defBody s_PolyD_addD, defScope s_PolyD_addD, [], []⟩
def df_Poly_scaled : He5.DefA := ⟨fun K => He.fAd K ("Poly", some "scaled"), "scaled", "Poly.scaled", defArgs s_Poly_scaled, defBody s_Poly_scaled, defScope s_Poly_scaled, [], []⟩
def df_Ratio_sign : He5.DefA := ⟨fun K => He.fAd K ("Ratio", some "sign"), "sign", "Ratio.sign", defArgs s_Ratio_sign, defBody s_Ratio_sign, defScope s_Ratio_sign, [], []⟩
def df_block_poly : He5.DefA := ⟨fun K => He.fAd K ("block_poly", none), "block_poly", "block_poly", defArgs s_block_poly, defBody s_block_poly, defScope s_block_poly, [], []⟩
def df_is_never_below : He5.DefA := ⟨fun K => He.fAd K ("is_never_below", none), "is_never_below", "is_never_below", defArgs s_is_never_below, defBody s_is_never_below, defScope s_is_never_below, [], []⟩
def df_SixPaper_shows : He5.DefA := ⟨fun K => He.fAd K ("SixPaper", some "shows"), "shows", "SixPaper.shows", defArgs s_SixPaper_shows, defBody s_SixPaper_shows, defScope s_SixPaper_shows, [], []⟩
def df_judge : He5.DefA := ⟨fun K => He.fAd K ("judge", none), "judge", "judge", defArgs s_judge, defBody s_judge, defScope s_judge, [], []⟩
def df_law_says : He5.DefA := ⟨fun K => He.fAd K ("_law_says", none), "_law_says", "_law_says", defArgs s_law_says, defBody s_law_says, defScope s_law_says, [], []⟩
def df_law_ask : He5.DefA := ⟨fun K => He.fAd K ("_law_ask", none), "_law_ask", "_law_ask", defArgs s_law_ask, defBody s_law_ask, defScope s_law_ask, [], []⟩
def df_law_at : He5.DefA := ⟨fun K => He.fAd K ("_law_at", none), "_law_at", "_law_at", defArgs s_law_at, defBody s_law_at, defScope s_law_at, [], []⟩
def df_law_holds : He5.DefA := ⟨fun K => He.fAd K ("_law_holds", none), "_law_holds", "_law_holds", defArgs s_law_holds, defBody s_law_holds, defScope s_law_holds, [], []⟩
def df_law_block : He5.DefA := ⟨fun K => He.fAd K ("_law_block", none), "_law_block", "_law_block", defArgs s_law_block, defBody s_law_block, defScope s_law_block, [], []⟩
def df_law_sum : He5.DefA := ⟨fun K => He.fAd K ("_law_sum", none), "_law_sum", "_law_sum", defArgs s_law_sum, defBody s_law_sum, defScope s_law_sum, [], []⟩
def df_law_built : He5.DefA := ⟨fun K => He.fAd K ("_law_built", none), "_law_built", "_law_built", defArgs s_law_built, defBody s_law_built, defScope s_law_built, [], []⟩
def df_law_bent_blocks : He5.DefA := ⟨fun K => He.fAd K ("_law_bent_blocks", none), "_law_bent_blocks", "_law_bent_blocks", defArgs s_law_bent_blocks, defBody s_law_bent_blocks, defScope s_law_bent_blocks, [], []⟩
def df_law_bent_claims : He5.DefA := ⟨fun K => He.fAd K ("_law_bent_claims", none), "_law_bent_claims", "_law_bent_claims", defArgs s_law_bent_claims, defBody s_law_bent_claims, defScope s_law_bent_claims, [], []⟩
def df_law_bent_parts : He5.DefA := ⟨fun K => He.fAd K ("_law_bent_parts", none), "_law_bent_parts", "_law_bent_parts", defArgs s_law_bent_parts, defBody s_law_bent_parts, defScope s_law_bent_parts, [], []⟩
def df_law_cell : He5.DefA := ⟨fun K => He.fAd K ("_law_cell", none), "_law_cell", "_law_cell", defArgs s_law_cell, defBody s_law_cell, defScope s_law_cell, [], []⟩
def df_law_draw : He5.DefA := ⟨fun K => He.fAd K ("_law_draw", none), "_law_draw", "_law_draw", defArgs s_law_draw, defBody s_law_draw, defScope s_law_draw, [], []⟩
def df_law_letters : He5.DefA := ⟨fun K => He.fAd K ("_law_letters", none), "_law_letters", "_law_letters", defArgs s_law_letters, defBody s_law_letters, defScope s_law_letters, [], []⟩
def df_law_long_rests : He5.DefA := ⟨fun K => He.fAd K ("_law_long_rests", none), "_law_long_rests", "_law_long_rests", defArgs s_law_long_rests, defBody s_law_long_rests, defScope s_law_long_rests, [], []⟩
def df_CrossedD_initD : He5.DefA := ⟨fun K => He.fAd K ("Crossed", some "__init__"), "__init__", "Crossed.__init__", defArgs s_CrossedD_initD, defBody s_CrossedD_initD, defScope s_CrossedD_initD, [], []⟩
def df_Ratio_compare : He5.DefA := ⟨fun K => He.fAd K ("Ratio", some "compare"), "compare", "Ratio.compare", defArgs s_Ratio_compare, defBody s_Ratio_compare, defScope s_Ratio_compare, [], []⟩
def df_CutPaperD_initD : He5.DefA := ⟨fun K => He.fAd K ("CutPaper", some "__init__"), "__init__", "CutPaper.__init__", defArgs s_CutPaperD_initD, defBody s_CutPaperD_initD, defScope s_CutPaperD_initD, [], []⟩
def df_FourClaimD_initD : He5.DefA := ⟨fun K => He.fAd K ("FourClaim", some "__init__"), "__init__", "FourClaim.__init__", defArgs s_FourClaimD_initD, defBody s_FourClaimD_initD, defScope s_FourClaimD_initD, [], []⟩
def df_TooHighD_initD : He5.DefA := ⟨fun K => He.fAd K ("TooHigh", some "__init__"), "__init__", "TooHigh.__init__", defArgs s_TooHighD_initD, defBody s_TooHighD_initD, defScope s_TooHighD_initD, [], []⟩
def df_LineClaimD_initD : He5.DefA := ⟨fun K => He.fAd K ("LineClaim", some "__init__"), "__init__", "LineClaim.__init__", defArgs s_LineClaimD_initD, defBody s_LineClaimD_initD, defScope s_LineClaimD_initD, [], []⟩
def df_PieceD_initD : He5.DefA := ⟨fun K => He.fAd K ("Piece", some "__init__"), "__init__", "Piece.__init__", defArgs s_PieceD_initD, defBody s_PieceD_initD, defScope s_PieceD_initD, [], []⟩
def df_law_other_sorts : He5.DefA := ⟨fun K => He.fAd K ("_law_other_sorts", none), "_law_other_sorts", "_law_other_sorts", defArgs s_law_other_sorts, defBody s_law_other_sorts, defScope s_law_other_sorts, [], []⟩
def df_law_refused : He5.DefA := ⟨fun K => He.fAd K ("_law_refused", none), "_law_refused", "_law_refused", defArgs s_law_refused, defBody s_law_refused, defScope s_law_refused, [], []⟩
def df_law : He5.DefA := ⟨fun K => He.fAd K ("law", none), "law", "law", defArgs s_law, defBody s_law, defScope s_law, [], []⟩
def fn : List He5.DefA := [df_OutOfBoundsD_initD, df_check_number, df_BadSizeD_initD, df_check_size, df_lowest_terms, df_PolyD_initD, df_quadratic_of, df_SixClaim_quadratic, df_whole_three, df_first_below, df_SixClaim_holds, df_PolyD_eqD, df_SixPaper_is_squares, df_RatioD_initD, df_SixClaimD_initD, df_law_claim, df_law_flag, df_law_whole, df_law_fraction, df_law_is, df_SixPaperD_initD, df_law_made, df_CutPaper_shows, df_Poly_made, df_poly_sum, df_PolyD_addD, df_Poly_scaled, df_Ratio_sign, df_block_poly, df_is_never_below, df_SixPaper_shows, df_judge, df_law_says, df_law_ask, df_law_at, df_law_holds, df_law_block, df_law_sum, df_law_built, df_law_bent_blocks, df_law_bent_claims, df_law_bent_parts, df_law_cell, df_law_draw, df_law_letters, df_law_long_rests, df_CrossedD_initD, df_Ratio_compare, df_CutPaperD_initD, df_FourClaimD_initD, df_TooHighD_initD, df_LineClaimD_initD, df_PieceD_initD, df_law_other_sorts, df_law_refused, df_law]
def fb : List Chk := [cGlo "Answer", cGlo "BadSize", cGlo "Crossed", cGlo "CutPaper", cGlo "FourClaim", cGlo "LineClaim", cGlo "NoughtError", cGlo "OutOfBounds", cGlo "Paper", cGlo "Piece", cGlo "Poly", cGlo "Ratio", cGlo "SixClaim", cGlo "SixPaper", cGlo "Spot", cGlo "TooHigh", cGlo "ZeroBottom", cGlo "_law_ask", cGlo "_law_at", cGlo "_law_bent_blocks", cGlo "_law_bent_claims", cGlo "_law_bent_parts", cGlo "_law_block", cGlo "_law_built", cGlo "_law_cell", cGlo "_law_claim", cGlo "_law_draw", cGlo "_law_flag", cGlo "_law_fraction", cGlo "_law_holds", cGlo "_law_is", cGlo "_law_letters", cGlo "_law_long_rests", cGlo "_law_made", cGlo "_law_other_sorts", cGlo "_law_refused", cGlo "_law_says", cGlo "_law_sum", cGlo "_law_whole", cGlo "are_inside", cGlo "block_poly", cGlo "cells_of", cGlo "check_number", cGlo "check_size", cGlo "first_below", cGlo "is_never_below", cGlo "judge", cGlo "law", cGlo "lowest_terms", cGlo "none_below", cGlo "poly_sum", cGlo "quadratic_of", cGlo "value_sign", cGlo "whole_three", cFree "abs", cFree "all", cFree "bool", cFree "enumerate", cVal "gcd" "math.gcd", cFree "int", cFree "isinstance", cVal "lcm" "math.lcm", cFree "len", cFree "list", cFree "max", cFree "min", cFree "property", cFree "range", cFree "staticmethod", cFree "tuple", cFree "zip", cCls "Ratio", cIns "Ratio", cMk "Ratio", cSelf "Ratio", cNo "Ratio" "bottom", cNo "Ratio" "top", cMeth "Ratio" "sign", cMeth "Ratio" "compare", cCls "Poly", cIns "Poly", cMk "Poly", cSelf "Poly", cNo "Poly" "degree", cNo "Poly" "numbers", cNo "Poly" "over", cMeth "Poly" "__eq__", cRead "Poly", cStat "Poly" "made", cMeth "Poly" "__add__", cMeth "Poly" "scaled", cCls "SixClaim", cIns "SixClaim", cMk "SixClaim", cSelf "SixClaim", cNo "SixClaim" "letters", cNo "SixClaim" "numbers", cMeth "SixClaim" "quadratic", cMeth "SixClaim" "holds", cCls "SixPaper", cIns "SixPaper", cMk "SixPaper", cSelf "SixPaper", cNo "SixPaper" "amount", cNo "SixPaper" "block", cNo "SixPaper" "rest", cPrp "SixPaper" "is_squares", cMeth "SixPaper" "shows", cCls "Piece", cIns "Piece", cMk "Piece", cSelf "Piece", cNo "Piece" "high", cNo "Piece" "low", cCls "LineClaim", cIns "LineClaim", cMk "LineClaim", cSelf "LineClaim", cNo "LineClaim" "letters", cNo "LineClaim" "piece", cNo "LineClaim" "poly", cCls "CutPaper", cIns "CutPaper", cMk "CutPaper", cSelf "CutPaper", cNo "CutPaper" "core", cNo "CutPaper" "cuts", cNo "CutPaper" "side", cMeth "CutPaper" "shows", cCls "FourClaim", cIns "FourClaim", cMk "FourClaim", cSelf "FourClaim", cNo "FourClaim" "letters", cNo "FourClaim" "numbers", cOex "BadSize", cNo "BadSize" "size", cOex "Crossed", cNo "Crossed" "low", cNo "Crossed" "high", cOex "OutOfBounds", cNo "OutOfBounds" "value", cOex "TooHigh", cNo "TooHigh" "degree", cExc0 "ZeroBottom", cExm "BadSize" "OutOfBounds" false, cExm "Crossed" "OutOfBounds" false, cExm "OutOfBounds" "OutOfBounds" true, cExm "TooHigh" "OutOfBounds" false, cExm "ZeroBottom" "OutOfBounds" false, cExcC "BadSize", cExcC "Crossed", cExcC "OutOfBounds", cExcC "TooHigh", cExcC "ZeroBottom", cCon "SixPaper" "KIND" "paper", cCon "Spot" "KIND" "spot", cKit "Ratio" "Ratio" true, cKit "Poly" "Poly" true, cKit "SixPaper" "SixPaper" true, cKit "SixPaper" "Paper" true, cKit "SixPaper" "Spot" false, cKit "SixPaper" "Answer" true, cKit "Spot" "Answer" true, cKit "SixClaim" "Claim" true, cKit "BadSize" "OutOfBounds" false, cKit "BadSize" "NoughtError" true, cKit "OutOfBounds" "BadSize" false, cKit "OutOfBounds" "NoughtError" true, cKit "BadSize" "BadSize" true, cKit "Spot" "Spot" true, cKit "Spot" "Paper" false, cKit "SixClaim" "SixClaim" true, cKit "LineClaim" "SixClaim" false, cKit "FourClaim" "SixClaim" false, cKit "SixClaim" "LineClaim" false, cKit "CutPaper" "CutPaper" true, cKit "OutOfBounds" "OutOfBounds" true]
end T
set_option maxHeartbeats 0
namespace T
open PySem PySem.W PySem.Calls PySem.Spec PyProof.Rows L2 Z
abbrev R : PySem.W.OpenRow := PySem.W.OpenLaw.row PySem.Challenge.rw_belownought_k62_six_papers_judged
abbrev hk : PySem.W.Hook := hookZ3 6 fb fn
def ob (st : PySem.W.SharedT) : SeenZ := seenG3 6 fb fn (HandSHeadRun.getT st)
def loose : List Str := (["_wall", "__name__", "NoughtError", "ZeroBottom", "BadText", "OutOfBounds", "BadSize", "Crossed", "ZeroPoly", "TooHigh", "TooHeavy", "BadRoot", "check_number", "check_size", "Ratio", "whole_power", "ratio_power", "ratio_sum", "read_whole", "read_fraction", "joined_terms", "split_terms", "split_body", "written_power", "read_power", "written_poly", "read_poly", "Poly", "lowest_terms", "poly_sum"] : List Str) ++ (["power_row", "whole_value", "value_sign", "whole_parts", "six_value", "Claim", "Answer", "Paper", "Spot", "judge", "SixClaim", "SixPaper", "quadratic_of", "whole_three", "first_below", "is_never_below", "block_poly", "Piece", "middle_of", "greater_low", "lesser_high", "read_ends", "simplest", "simplest_above", "monic", "primitive", "whole_division", "divide", "primitive_rest", "common_part"] : List Str) ++ (["sturm_row", "plain_row", "changes", "sign_changes", "Root", "isolates_root", "halved_root", "narrowed_to", "is_wider", "same_number", "real_roots", "row_without", "outer_ends", "root_bound", "inner_roots", "cut_between", "ratio_between", "samples", "is_inside", "corner_tops", "moved_to_end", "cells_of", "none_below", "LineClaim", "CutPaper", "are_inside", "below_on", "FourClaim", "five_products", "line_claims"] : List Str) ++ (["_law_cell", "_law_draw", "_law_letters", "_law_whole", "_law_flag", "_law_fraction", "_law_is", "_law_block", "_law_sum", "_law_at", "_law_holds", "_law_claim", "_law_made", "_law_says", "_law_ask", "_law_built", "_law_bent_parts", "_law_bent_blocks", "_law_bent_claims", "_law_long_rests", "_law_other_sorts", "_law_refused"] : List Str)
theorem runA (w : World) : (HandSHeadRun.wholeF (fun p => HandSHeadRun.stepQ (HandSHeadRun.denQ HandSHeadRun.tabQ) p w) HandSHeadRun.fenceQ 12000 R.prog).map (fun x => HandSHeadRun.looksF R.prog x.1.heap x.2.abs) = some true := by
  kernel_rfl
theorem runB (w : World) : (HandSHeadRun.wholeF (fun p => HandSHeadRun.stepQ (HandSHeadRun.denQ HandSHeadRun.tabQ) p w) HandSHeadRun.fenceQ 12000 R.prog).map (fun x => HandSHeadRun.seenQ (PySem.W.view R.prog [0, 129]) loose (importedModules R.prog.main.body) (fun s => PySem.W.xlAt (PySem.W.view R.prog [0, 129]) [] s && PySem.W.recOk R.toRowW.records s) x.2.abs) = some (PySem.W.openGood (PySem.W.view R.prog [0, 129]) loose) := by
  kernel_rfl
def fb0 : List Chk := [cGlo "Answer", cGlo "BadSize", cGlo "Crossed", cGlo "CutPaper", cGlo "FourClaim", cGlo "LineClaim", cGlo "NoughtError", cGlo "OutOfBounds", cGlo "Paper", cGlo "Piece", cGlo "Poly", cGlo "Ratio", cGlo "SixClaim", cGlo "SixPaper", cGlo "Spot", cGlo "TooHigh", cGlo "ZeroBottom", cGlo "_law_ask", cGlo "_law_at", cGlo "_law_bent_blocks", cGlo "_law_bent_claims", cGlo "_law_bent_parts", cGlo "_law_block", cGlo "_law_built", cGlo "_law_cell", cGlo "_law_claim", cGlo "_law_draw", cGlo "_law_flag", cGlo "_law_fraction", cGlo "_law_holds", cGlo "_law_is", cGlo "_law_letters", cGlo "_law_long_rests", cGlo "_law_made", cGlo "_law_other_sorts", cGlo "_law_refused", cGlo "_law_says", cGlo "_law_sum", cGlo "_law_whole", cGlo "are_inside", cGlo "block_poly", cGlo "cells_of", cGlo "check_number", cGlo "check_size"]
def fn0 : List He5.DefA := [df_OutOfBoundsD_initD, df_check_number, df_BadSizeD_initD, df_check_size, df_lowest_terms, df_PolyD_initD, df_quadratic_of, df_SixClaim_quadratic, df_whole_three, df_first_below, df_SixClaim_holds, df_PolyD_eqD, df_SixPaper_is_squares, df_RatioD_initD]
theorem runC0 (w : World) : (HandSHeadRun.wholeF (fun p => HandSHeadRun.stepQ (HandSHeadRun.denQ HandSHeadRun.tabQ) p w) HandSHeadRun.fenceQ 12000 R.prog).map (fun x => seenG3 6 fb0 fn0 (HandSHeadRun.getT x.2)) = some (dueK2 fn0) := by
  kernel_rfl
def fb1 : List Chk := [cGlo "first_below", cGlo "is_never_below", cGlo "judge", cGlo "law", cGlo "lowest_terms", cGlo "none_below", cGlo "poly_sum", cGlo "quadratic_of", cGlo "value_sign", cGlo "whole_three", cFree "abs", cFree "all", cFree "bool", cFree "enumerate", cVal "gcd" "math.gcd", cFree "int", cFree "isinstance", cVal "lcm" "math.lcm", cFree "len", cFree "list", cFree "max", cFree "min", cFree "property", cFree "range", cFree "staticmethod", cFree "tuple", cFree "zip", cCls "Ratio", cIns "Ratio", cMk "Ratio", cSelf "Ratio", cNo "Ratio" "bottom", cNo "Ratio" "top", cMeth "Ratio" "sign", cMeth "Ratio" "compare", cCls "Poly", cIns "Poly", cMk "Poly", cSelf "Poly", cNo "Poly" "degree", cNo "Poly" "numbers", cNo "Poly" "over", cMeth "Poly" "__eq__", cRead "Poly", cStat "Poly" "made"]
def fn1 : List He5.DefA := [df_SixClaimD_initD, df_law_claim, df_law_flag, df_law_whole, df_law_fraction, df_law_is, df_SixPaperD_initD, df_law_made, df_CutPaper_shows, df_Poly_made, df_poly_sum, df_PolyD_addD, df_Poly_scaled, df_Ratio_sign]
theorem runC1 (w : World) : (HandSHeadRun.wholeF (fun p => HandSHeadRun.stepQ (HandSHeadRun.denQ HandSHeadRun.tabQ) p w) HandSHeadRun.fenceQ 12000 R.prog).map (fun x => seenG3 6 fb1 fn1 (HandSHeadRun.getT x.2)) = some (dueK2 fn1) := by
  kernel_rfl
def fb2 : List Chk := [cMeth "Poly" "__add__", cMeth "Poly" "scaled", cCls "SixClaim", cIns "SixClaim", cMk "SixClaim", cSelf "SixClaim", cNo "SixClaim" "letters", cNo "SixClaim" "numbers", cMeth "SixClaim" "quadratic", cMeth "SixClaim" "holds", cCls "SixPaper", cIns "SixPaper", cMk "SixPaper", cSelf "SixPaper", cNo "SixPaper" "amount", cNo "SixPaper" "block", cNo "SixPaper" "rest", cPrp "SixPaper" "is_squares", cMeth "SixPaper" "shows", cCls "Piece", cIns "Piece", cMk "Piece", cSelf "Piece", cNo "Piece" "high", cNo "Piece" "low", cCls "LineClaim", cIns "LineClaim", cMk "LineClaim", cSelf "LineClaim", cNo "LineClaim" "letters", cNo "LineClaim" "piece", cNo "LineClaim" "poly", cCls "CutPaper", cIns "CutPaper", cMk "CutPaper", cSelf "CutPaper", cNo "CutPaper" "core", cNo "CutPaper" "cuts", cNo "CutPaper" "side", cMeth "CutPaper" "shows", cCls "FourClaim", cIns "FourClaim", cMk "FourClaim", cSelf "FourClaim"]
def fn2 : List He5.DefA := [df_block_poly, df_is_never_below, df_SixPaper_shows, df_judge, df_law_says, df_law_ask, df_law_at, df_law_holds, df_law_block, df_law_sum, df_law_built, df_law_bent_blocks, df_law_bent_claims, df_law_bent_parts]
theorem runC2 (w : World) : (HandSHeadRun.wholeF (fun p => HandSHeadRun.stepQ (HandSHeadRun.denQ HandSHeadRun.tabQ) p w) HandSHeadRun.fenceQ 12000 R.prog).map (fun x => seenG3 6 fb2 fn2 (HandSHeadRun.getT x.2)) = some (dueK2 fn2) := by
  kernel_rfl
def fb3 : List Chk := [cNo "FourClaim" "letters", cNo "FourClaim" "numbers", cOex "BadSize", cNo "BadSize" "size", cOex "Crossed", cNo "Crossed" "low", cNo "Crossed" "high", cOex "OutOfBounds", cNo "OutOfBounds" "value", cOex "TooHigh", cNo "TooHigh" "degree", cExc0 "ZeroBottom", cExm "BadSize" "OutOfBounds" false, cExm "Crossed" "OutOfBounds" false, cExm "OutOfBounds" "OutOfBounds" true, cExm "TooHigh" "OutOfBounds" false, cExm "ZeroBottom" "OutOfBounds" false, cExcC "BadSize", cExcC "Crossed", cExcC "OutOfBounds", cExcC "TooHigh", cExcC "ZeroBottom", cCon "SixPaper" "KIND" "paper", cCon "Spot" "KIND" "spot", cKit "Ratio" "Ratio" true, cKit "Poly" "Poly" true, cKit "SixPaper" "SixPaper" true, cKit "SixPaper" "Paper" true, cKit "SixPaper" "Spot" false, cKit "SixPaper" "Answer" true, cKit "Spot" "Answer" true, cKit "SixClaim" "Claim" true, cKit "BadSize" "OutOfBounds" false, cKit "BadSize" "NoughtError" true, cKit "OutOfBounds" "BadSize" false, cKit "OutOfBounds" "NoughtError" true, cKit "BadSize" "BadSize" true, cKit "Spot" "Spot" true, cKit "Spot" "Paper" false, cKit "SixClaim" "SixClaim" true, cKit "LineClaim" "SixClaim" false, cKit "FourClaim" "SixClaim" false, cKit "SixClaim" "LineClaim" false, cKit "CutPaper" "CutPaper" true, cKit "OutOfBounds" "OutOfBounds" true]
def fn3 : List He5.DefA := [df_law_cell, df_law_draw, df_law_letters, df_law_long_rests, df_CrossedD_initD, df_Ratio_compare, df_CutPaperD_initD, df_FourClaimD_initD, df_TooHighD_initD, df_LineClaimD_initD, df_PieceD_initD, df_law_other_sorts, df_law_refused, df_law]
theorem runC3 (w : World) : (HandSHeadRun.wholeF (fun p => HandSHeadRun.stepQ (HandSHeadRun.denQ HandSHeadRun.tabQ) p w) HandSHeadRun.fenceQ 12000 R.prog).map (fun x => seenG3 6 fb3 fn3 (HandSHeadRun.getT x.2)) = some (dueK2 fn3) := by
  kernel_rfl
theorem runC (w : World) : (HandSHeadRun.wholeF (fun p => HandSHeadRun.stepQ (HandSHeadRun.denQ HandSHeadRun.tabQ) p w) HandSHeadRun.fenceQ 12000 R.prog).map (fun x => ob x.2) = some (dueK2 fn) := by
  have e1 : fb = fb0 ++ (fb1 ++ (fb2 ++ (fb3))) := rfl
  have e2 : fn = fn0 ++ (fn1 ++ (fn2 ++ (fn3))) := rfl
  unfold ob
  rw [e1, e2]
  exact (seen_both3 (runC0 w) (seen_both3 (runC1 w) (seen_both3 (runC2 w) (runC3 w))))
theorem run (w : World) : HandSHeadRun.RunEqI R (PySem.W.view R.prog [0, 129]) hk ob 12000 loose w := map_three (runA w) (runB w) (runC w)
end T

set_option Elab.async false
set_option linter.all false
set_option maxRecDepth 100000
set_option maxHeartbeats 4000000
namespace Z
open PySem PySem.Spec PyProof.Rows L2
section
variable (P : Program) (w : World) (K : PySem.W.Frag) (mg : Str → Option Value) (base : Heap)
/-- a def of the module under its name, the defaults dvs filling up -/
structure Cal (k : Nat) (x : Str) (sp : Sp) (dvs : List V) : Prop where
  ex : ∃ (f : Addr) (fd : FuncData) (ps : List Str) (ds : List Value), FnOk P w K mg base (L2N.CX P w) k f fd ps sp ∧ mg x = some (.ref f) ∧ PySem.W.keepIn K (.ref f) = true ∧ Binds K fd ps ds ∧ Vals dvs ds
/-- .. within an except suite -/
structure CalH (k : Nat) (x : Str) (sp : Sp) : Prop where
  ex : ∃ (f : Addr) (fd : FuncData) (ps : List Str), L2H.FnH P w K mg base (L2N.CX P w) k f fd ps sp ∧ mg x = some (.ref f) ∧ PySem.W.keepIn K (.ref f) = true ∧ Binds K fd ps []
/-- a method -/
structure Met (k : Nat) (C : Addr) (m : Str) (sp : Sp) (dvs : List V) : Prop where
  ex : ∃ (f : Addr) (fd : FuncData) (ps : List Str) (ds : List Value), Cls K C ∧ Meth K C m f ∧ FnOk P w K mg base (L2N.CX P w) k f fd ps sp ∧ Binds K fd ps ds ∧ Vals dvs ds
/-- a class made by its name -/
structure Mak (k : Nat) (x : Str) (C : Addr) (sp : Sp) (dvs : List V) : Prop where
  ex : ∃ (f : Addr) (fd : FuncData) (ps : List Str) (ds : List Value), Mk K C f ∧ FnOk P w K mg base (L2N.CX P w) k f fd ps sp ∧ mg x = some (.ref C) ∧ Binds K fd ps ds ∧ Vals dvs ds
/-- an exception class made by its name, its own __init__ keeping sp -/
structure MakX (k : Nat) (x : Str) (C : Addr) (sp : Sp) : Prop where
  ex : ∃ (f : Addr) (fd : FuncData) (ps : List Str), OexC K C ∧ PySem.W.findIn K (.ref C) "__init__" = some (some (.ref f)) ∧ PySem.W.typeIn K (.ref f) = some (.type "function") ∧ FnOk P w K mg base (L2N.CX P w) k f fd ps sp ∧ mg x = some (.ref C) ∧ Binds K fd ps []
end
/-- what a call lets out, wished for by W -/
def tCallW (sp : Sp) (dvs : List V) (W : WX) (t : TA) : TE := fun σ H Q => t σ H fun vs H1 => sp (vs ++ dvs) H1 Q (fun cls d H' => W cls d σ H')
def tMethW (C : Addr) (m : Str) (sp : Sp) (dvs : List V) (W : WX) (ta : TE) (t : TA) : TE := fun σ H Q => ta σ H fun x H1 => ∃ a dx fs, x = .ref a ∧ H1 a = some (.ins C dx fs) ∧ fs.lookup m = none ∧
  t σ H1 fun vs H2 => sp (x :: (vs ++ dvs)) H2 Q (fun cls d H' => W cls d σ H')
def tMakeW (C : Addr) (sp : Sp) (dvs : List V) (W : WX) (t : TA) : TE := fun σ H Q => t σ H fun vs H1 => ∀ x dx, H1 x = none → H1 dx = none → dx ≠ x →
  sp (.ref x :: (vs ++ dvs)) (upd (upd H1 dx (.own x)) x (.ins C dx [])) (fun v H2 => v = .non ∧ Q (.ref x) H2) (fun cls d H' => W cls d σ H')
section
variable {X : Cx} {k j : Nat} {f C : Addr} {fd : FuncData} {ps : List Str} {sp : Sp} {dvs : List V} {ds : List Value} {W : WX} {x m : Str} {p pos apos : Pos} {e o : Expr} {es : List Expr} {ta : TE} {t : TA}
theorem passW (tk : L2N.Takes X W) (σ : L2.St) : PassesAt (L2N.CX X.prog X.w) X σ (fun cls d H => W cls d σ H) := L2N.passAt tk σ
theorem pe_c (c : Cal X.prog X.w X.K X.mg X.base k x sp dvs) (hr : Room j X.A) (hk : k ≤ j) (tk : L2N.Takes X W) (ha : PA X (e :: es) t) (hg : Gl X x := by rfl)
    (hdb : (x == ("__debug__" : Str)) = false := by decide) (he : starEach (e :: es) X.env = (false, eval e X.env) :: starEach es X.env := by rfl) (hpl : (backTo pos (starEach es X.env)).any (·.1) = false := by rfl) :
    PE X (.Call (.Name x p) (e :: es) [] pos) (tCallW sp dvs W t) := by
  obtain ⟨f, fd, ps, ds, F, hm, kp, b, d⟩ := c.ex
  exact pe_callSD (E := fun σ cls d H => W cls d σ H) F (hr.mono hk) hg hm kp b d (passW tk) ha hdb he hpl
/-- making an instance, the wish at the slots -/
theorem run_mkS {pi : List (Addr × Obj)} {sl : L2.St} {H0 : Hp} {s0 : Shared} {Q0 : VK} {us : List Value} {xs : List V} {E0 : XK} (M : Mk X.K C f) (F : FnOk X.prog X.w X.K X.mg X.base (L2N.CX X.prog X.w) k f fd ps sp) (hr : Room (k + 1) X.A) (hb : Binds X.K fd ps ds) (hd : Vals dvs ds)
    (hx : PassesAt (L2N.CX X.prog X.w) X sl E0) (J : Inv X pi sl H0 s0) (r : Vals xs us)
    (h : ∀ y dy, H0 y = none → H0 dy = none → dy ≠ y → sp (.ref y :: (xs ++ dvs)) (upd (upd H0 dy (.own y)) y (.ins C dy [])) (fun v H2 => v = .non ∧ Q0 (.ref y) H2) E0) :
    wpAny (model X.prog X.w) X.A (call (.ref C) us) (EP X pi sl Q0) X.xe s0 := by
  have g1 := J.hok.fresh (Nat.le_succ s0.heap.objs.size)
  have g2 := J.hok.fresh (Nat.le_refl s0.heap.objs.size)
  have asked := h _ _ g1 g2 (Nat.ne_of_lt (Nat.lt_succ_self _))
  have J2 := Inv.made (C := C) J
  have rs : Vals (V.ref (s0.heap.objs.size + 1) :: (xs ++ dvs)) (Value.ref (s0.heap.objs.size + 1) :: (us ++ ds)) := .cons rfl (r.append hd)
  have sz : (Value.ref (s0.heap.objs.size + 1) :: us ++ ds).length = ps.length := rs.length.symm.trans (F.len _ _ _ _ asked)
  have bd := hb _ (Value.ref (s0.heap.objs.size + 1) :: us) J2.kIn sz
  have run := F.run (X.A.under (.builtin "type.__call__" ⟨.ref C :: us, []⟩)) X.stack _ _ ⟨Value.ref (s0.heap.objs.size + 1) :: us, []⟩ _ _ _ _ (hr.make C us []) (J2.env0.make C us []) bd rs asked
  refine wpAny_call (make_map (f := f) J.kIn M.makes M.init (beq_iff_eq.mp M.fn) (codeAny_mono run fun fin s1 hq => ?_))
  match fin, hq with
  | .error er, hq => exact hx pi _ _ er s1 J2 hq
  | .ok (.ret u), hq =>
    obtain ⟨v, H3, J3, rv, ev, q3⟩ := J2.after hq
    subst ev
    exact ⟨rv, ⟨V.ref (s0.heap.objs.size + 1), H3, J3, rfl, q3⟩⟩
theorem pe_mk (c : Mak X.prog X.w X.K X.mg X.base k x C sp dvs) (hr : Room j X.A) (hk : k + 1 ≤ j) (tk : L2N.Takes X W) (ha : PA X (e :: es) t) (hg : Gl X x := by rfl)
    (hdb : (x == ("__debug__" : Str)) = false := by decide) (he : starEach (e :: es) X.env = (false, eval e X.env) :: starEach es X.env := by rfl) (hpl : (backTo pos (starEach es X.env)).any (·.1) = false := by rfl) :
    PE X (.Call (.Name x p) (e :: es) [] pos) (tMakeW C sp dvs W t) := by
  obtain ⟨f, fd, ps, ds, M, F, hm, b, d⟩ := c.ex
  refine ⟨fun pi s0 sl H0 Q0 J h0 => ?_⟩
  refine wpAny_Call_Name_kw (ld_glob J hg hm ?_ hdb)
  refine PySem.W.callWith_K (h₀ := X.base) J.ok.mod.kin M.kp (thn (ha.run pos pi s0 sl H0 _ J h0) fun us s1 ⟨xs, H1, J1, r, q⟩ => ⟨J1.kIn, ?_⟩) he hpl
  exact run_mkS M F (hr.mono hk) b d (passW tk sl) J1 r q
/-- o.m(..) of an own class -/
theorem pe_mt {pl : Sem Bool} (c : Met X.prog X.w X.K X.mg X.base k C m sp dvs) (hr : Room j X.A) (hk : k ≤ j) (tk : L2N.Takes X W) (ho : PE X o ta) (ha : PA X (e :: es) t)
    (hst : starEach (e :: es) X.env = (false, eval e X.env) :: starEach es X.env := by rfl) (hpl : (backTo pos (starEach es X.env)).any (·.1) = false := by rfl)
    (ht : eval (.Call (.Attribute o m apos) (e :: es) [] pos) X.env = (do
      let ov ← eval o X.env; standAt apos.atName
      let (f, first) ← holding [ov] (getMethod ov m pl); callWith pos f first (backTo pos (starEach (e :: es) X.env)) (backToKw pos (keywordEach [] X.env))) := by rfl) :
    PE X (.Call (.Attribute o m apos) (e :: es) [] pos) (tMethW C m sp dvs W ta t) := by
  obtain ⟨f, fd, ps, ds, hc, hm, F, b, d⟩ := c.ex
  refine ⟨fun pi s0 sl H0 Q0 J h0 => ?_⟩
  refine PySem.W.methodCall_KW (pl := pl) (thn (ho.run pi s0 sl H0 _ J h0) fun u s1 ⟨y, H1, J1, ry, a, dy, fs, ey, ea, l, q⟩ => ?_) ht
  subst ey
  obtain rfl : u = Value.ref a := ry
  refine getmeth_ok J1 ea hc hm l ?_
  refine PySem.W.callWith_K (first := [.ref a]) (h₀ := X.base) J.ok.mod.kin hm.kp (thn (ha.run pos pi s1 sl H1 _ J1 q) fun us s2 ⟨xs, H2, J2, r, q2⟩ => ⟨J2.kIn, ?_⟩) hst hpl
  exact run_fnSD (us := .ref a :: us) (vs := .ref a :: xs) (E := fun σ cls d H => W cls d σ H) F (hr.mono hk) b d (passW tk sl) J2 (.cons rfl r) q2
theorem pe_mt0 {pl : Sem Bool} (c : Met X.prog X.w X.K X.mg X.base k C m sp dvs) (hr : Room j X.A) (hk : k ≤ j) (tk : L2N.Takes X W) (ho : PE X o ta)
    (ht : eval (.Call (.Attribute o m apos) [] [] pos) X.env = (do
      let ov ← eval o X.env; standAt apos.atName
      let (f, first) ← holding [ov] (getMethod ov m pl); callWith pos f first (backTo pos (starEach [] X.env)) (backToKw pos (keywordEach [] X.env))) := by rfl) :
    PE X (.Call (.Attribute o m apos) [] [] pos) (tMethW C m sp dvs W ta tNil) := by
  obtain ⟨f, fd, ps, ds, hc, hm, F, b, d⟩ := c.ex
  refine ⟨fun pi s0 sl H0 Q0 J h0 => ?_⟩
  refine PySem.W.methodCall_KW (pl := pl) (thn (ho.run pi s0 sl H0 _ J h0) fun u s1 ⟨y, H1, J1, ry, a, dy, fs, ey, ea, l, q⟩ => ?_) ht
  subst ey
  obtain rfl : u = Value.ref a := ry
  refine getmeth_ok J1 ea hc hm l ?_
  exact PySem.W.callWith_K0 (first := [.ref a]) J1.kIn hm.kp (run_fnSD (us := [.ref a]) (vs := [.ref a]) (E := fun σ cls d H => W cls d σ H) F (hr.mono hk) b d (passW tk sl) J1 (.cons rfl .nil) q)
end
end Z
set_option maxHeartbeats 4000000
namespace Z
open PySem PySem.Spec PyProof.Rows L2
section
variable {X : Cx} {k j : Nat} {C : Addr} {sp : Sp} {W : WX} {x : Str} {p pos : Pos} {e : Expr} {es : List Expr} {t : TA}
/-- X(), X an own exception class without an __init__ of the text -/
theorem pmk_x0 {bmB : List Value} {B newId initId : String} (F : ExcBaseFacts B newId initId bmB) (q : PySem.W.excIn X.K C bmB newId = true) (gC : X.mg x = some (.ref C)) (kC : PySem.W.keepIn X.K (.ref C) = true) (r : Raises X (.ref C)) (hg : Gl X x := by rfl)
    (hdb : (x == ("__debug__" : Str)) = false := by decide) : L2N.PMk X (.Call (.Name x p) [] [] pos) (fun _ H Q => Q (.ref C) none H) := by
  intro pi s0 sl H0 Q0 J h0
  refine wpAny_Call_Name_kw (ld_glob J hg gC ?_ hdb)
  refine PySem.W.callWith_K0 J.kIn kC ?_
  show wpAny _ _ (call (.ref C) []) _ _ _
  obtain ⟨bm, N, nm, qn, bs, hdct, sn, sub, ab, col, dd, k0, k1, k2, k3, k5, mN, hC, hN, hni, T⟩ := exc_obj J.kIn q
  refine wpAny_call_exc_subT F T hC hN hni (fun h1 e1 hm => ?_) (Nat.zero_le _)
  exact L2N.mk_of J hm r h0 (J.hok.gone hm.new)
/-- C(..), C's own __init__ keeping sp: what is left is an exception without a context -/
theorem run_exc {fI : Addr} {fd : FuncData} {ps : List Str} {pi : List (Addr × Obj)} {sl : L2.St} {H1 : Hp} {s1 : Shared} {Q0 : XK} {us : List Value} {xs : List V} (T : OexC X.K C) (iC : PySem.W.findIn X.K (.ref C) "__init__" = some (some (.ref fI)))
    (tI : PySem.W.typeIn X.K (.ref fI) = some (.type "function")) (F1 : FnOk X.prog X.w X.K X.mg X.base (L2N.CX X.prog X.w) k fI fd ps sp) (hr : Room (k + 1) X.A) (hb : Binds X.K fd ps []) (hx : Passes (L2N.CX X.prog X.w) X (fun _ _ _ => False)) (J1 : Inv X pi sl H1 s1) (r1 : Vals xs us) (hz : xs.length ≤ 1000)
    (q1 : ∀ a, H1 a = none → sp (.ref a :: (xs ++ [])) (upd H1 a (exo a C none)) (fun v H2 => v = .non ∧ ∃ (d : Addr) (fs : List (Str × V)), H2 a = some (exo a C (some d)) ∧ H2 d = some (exd d fs) ∧ H1 d = none ∧ Q0 (.ref C) (some d) (upd (del H2 a) d (.xd fs))) (fun _ _ _ => False)) :
    wpAny (model X.prog X.w) X.A (call (.ref C) us) (L2N.MkP X pi sl Q0) X.xe s1 := by
  obtain ⟨nm, q, N, bs, bm, sn, sub, ab, col, dd, k0, k1, k2, k3, k5, hC, hbm⟩ := T.cls
  obtain ⟨hp, g, dr, tk, os⟩ := s1
  have sz0 := Nat.le_succ hp.objs.size
  have nw : H1 (hp.objs.size + 1) = none := J1.hok.fresh sz0
  have asked := q1 _ nw
  have old : ∀ b o, hp.get? b = some o → ((hp.push (PySem.W.kdv_tup us)).push (PySem.HandSPX.excO C hp.objs.size)).get? b = some o := fun b o e1 => Heap.get?_push_of_some _ (Heap.get?_push_of_some _ e1)
  have at_new : ((hp.push (PySem.W.kdv_tup us)).push (PySem.HandSPX.excO C hp.objs.size)).get? (hp.objs.size + 1) = some (PySem.HandSPX.excO C hp.objs.size) := by heap_get
  have J2 := J1.laid (t' := tk) (a := hp.objs.size + 1) (o := exo (hp.objs.size + 1) C none) old sz0 (exo_ok at_new)
  have r2 : Vals (V.ref (hp.objs.size + 1) :: (xs ++ [])) (Value.ref (hp.objs.size + 1) :: (us ++ [])) := .cons rfl (r1.append .nil)
  have szl : (Value.ref (hp.objs.size + 1) :: us ++ []).length = ps.length := r2.length.symm.trans (F1.len _ _ _ _ asked)
  have szu : us.length ≤ sizeLine := by rw [← Paired.length r1, sizeLine_eq]; omega
  have bd := hb _ (Value.ref (hp.objs.size + 1) :: us) J2.kIn szl
  have run := F1.run (X.A.under (.builtin "type.__call__" ⟨.ref C :: us, []⟩)) X.stack _ _ ⟨Value.ref (hp.objs.size + 1) :: us, []⟩ _ _ _ (fun _ _ _ => False) (hr.make C us []) (J2.env0.make C us []) bd r2 asked
  have looks := PySem.W.looks_findIn (M := model X.prog X.w) J1.kIn iC
  refine wpAny_call (PySem.HandSPX.call_own PySem.F.excBase_ValueError (fun Y => PySem.HandSPX.refsVE_contains Y bm hbm) (J1.kIn _ _ hC) looks (fun self => PySem.W.bind_fn J1.kIn self tI) szu (codeAny_mono run fun fin s3 hq => ?_))
  match fin, hq with
  | .error er, hq => exact hx pi sl _ _ er s3 J2 hq
  | .ok (.ret u), hq =>
    obtain ⟨v, H2, os2, bare2, un2, hok2, rv, ev, d, fs, ea, ed, hd1, q2⟩ := hq
    subst ev
    obtain ⟨h2, g2, d2, t2, os'⟩ := s3
    obtain ⟨t0, G, J3, kG, ge, hoe, na⟩ := mk_end0 (d2 := d2) (t2 := t2) J1 sz0 old un2 hok2 os2 bare2 ea ed hd1
    exact ⟨rv, _, _, _, ⟨G, g2, d2, t2, os'⟩, _, .ref C, some d, rfl, J3, kG, ge, hoe, ⟨rfl, rfl, fun vs ev => by cases ev; rfl⟩, rfl, rfl, na, rfl, bare2, raises_own T.exC T.tyC, q2⟩
theorem pmk_x (c : MakX X.prog X.w X.K X.mg X.base k x C sp) (hr : Room j X.A) (hk : k + 1 ≤ j) (hx : Passes (L2N.CX X.prog X.w) X (fun _ _ _ => False)) (ha : PA X (e :: es) t) (hg : Gl X x := by rfl)
    (hdb : (x == ("__debug__" : Str)) = false := by decide) (he : starEach (e :: es) X.env = (false, eval e X.env) :: starEach es X.env := by rfl) (hpl : (backTo pos (starEach es X.env)).any (·.1) = false := by rfl) :
    L2N.PMk X (.Call (.Name x p) (e :: es) [] pos) (tMkO C sp [] t) := by
  obtain ⟨f, fd, ps, T, iC, tI, F, hm, b⟩ := c.ex
  intro pi s0 sl H0 Q0 J h0
  refine wpAny_Call_Name_kw (ld_glob J hg hm ?_ hdb)
  refine PySem.W.callWith_K (h₀ := X.base) J.ok.mod.kin T.kC (thn (ha.run pos pi s0 sl H0 _ J h0) fun us s1 ⟨xs, H1, J1, r1, hz, q1⟩ => ⟨J1.kIn, ?_⟩) he hpl
  exact run_exc T iC tI F (hr.mono hk) b hx J1 r1 hz q1
theorem passF : Passes (L2N.CX X.prog X.w) X (fun _ _ _ => False) := fun _ _ _ _ _ _ _ h => by
  obtain ⟨_, _, _, _, _, _, _, _, _, _, _, _, z⟩ := h
  exact z.elim
def rOwn1 (C : Addr) (sp : Sp) (E : XK) : V → Hp → VK → Prop := fun x H Q => ∃ a dx fs, x = .ref a ∧ H a = some (.ins C dx fs) ∧ sp [.ref a] H Q E
def rOwn2 (C : Addr) (sp : Sp) (E : XK) : R2 := fun x y H Q => ∃ a b dx dy fs gs, x = .ref a ∧ y = .ref b ∧ H a = some (.ins C dx fs) ∧ H b = some (.ins C dy gs) ∧ sp [.ref a, .ref b] H (fun v H' => (∃ q, v = .ref q) ∧ Q v H') E
theorem ref_cls {pi : List (Addr × Obj)} {s0 : Shared} {sl : L2.St} {H0 : Hp} {b dy : Addr} {gs : List (Str × V)} (J : Inv X pi sl H0 s0) (eb : H0 b = some (.ins C dy gs)) {M : Model} : PySem.W.Looks M s0.heap (typeOf (.ref b)) (.ref C) := by
  obtain ⟨mA, O, _⟩ := ins_get J.hok eb
  obtain ⟨od, I0, _⟩ := O.look
  exact I0.type
theorem op_own {op : Operator} {m : Str} (hop : PySem.dunder op.info.2 = m) (hs : PySem.W.selfFirst X.K C = true) (c : Met X.prog X.w X.K X.mg X.base k C m sp []) (hr : Room j X.A) (hk : k ≤ j) {E : XK} (hx : Passes (L2N.CX X.prog X.w) X E) : OpR X (binaryOp op) (rOwn2 C sp E) := by
  intro pi s0 sl H0 y z v u Q0 J ry rz h0
  obtain ⟨a, b, dy, dz, fs, gs, rfl, rfl, ea, eb, q⟩ := h0
  obtain rfl : v = Value.ref a := ry
  obtain rfl : u = Value.ref b := rz
  obtain ⟨f, fd, ps, ds, hc, hm, F, bd, d⟩ := c.ex
  obtain ⟨mA, O, _⟩ := ins_get J.hok ea
  obtain ⟨od, I0, _⟩ := O.look
  obtain ⟨m0, fr⟩ := J.fr
  refine PySem.W.binop_K fr J.ok.mod.kin I0 (ref_cls J eb) hs (by rw [hop]; exact hm.at_) hm.fn ?_
  cases d
  refine wpAny_mono (run_fn (us := [.ref a, .ref b]) (vs := [.ref a, .ref b]) F (hr.mono hk) bd .nil hx J (.cons rfl (.cons rfl .nil)) q) (fun r s1 hq => ?_) fun _ _ z => z
  obtain ⟨v1, H1, J1, rv, ⟨q1, e1⟩, q2⟩ := hq
  subst e1
  obtain rfl : r = Value.ref q1 := rv
  exact ⟨.ref q1, H1, J1, rfl, q2⟩
def rOr (r r' : R2) : R2 := fun x y H Q => r x y H Q ∨ r' x y H Q
def rOr1 (r r' : V → Hp → VK → Prop) : V → Hp → VK → Prop := fun x H Q => r x H Q ∨ r' x H Q
theorem op_or2 {f : Value → Value → Sem Value} {r r' : R2} (h : OpR X f r) (h' : OpR X f r') : OpR X f (rOr r r') := by
  intro pi s0 sl H0 y z v u Q0 J ry rz h0
  rcases h0 with h0 | h0
  · exact h _ _ _ _ _ _ _ _ _ J ry rz h0
  · exact h' _ _ _ _ _ _ _ _ _ J ry rz h0
def zNeg : V → Hp → VK → Prop := fun x H Q => ∃ i, x = .int i ∧ Q (.int (-i)) H
def zAdd : R2 := fun x y H Q => ∃ i j, x = .int i ∧ y = .int j ∧ Q (.int (i + j)) H
def zSub : R2 := fun x y H Q => ∃ i j, x = .int i ∧ y = .int j ∧ Q (.int (i - j)) H
/-- a size of bits -/
def zMul : R2 := fun x y H Q => ∃ i j, x = .int i ∧ y = .int j ∧ IntMulOk i j ∧ Q (.int (i * j)) H
def zDiv : R2 := fun x y H Q => ∃ i j, x = .int i ∧ y = .int j ∧ (j ≠ 0 ∧ j.natAbs.log2 < 9000) ∧ Q (.int (i.fdiv j)) H
def zMod : R2 := fun x y H Q => ∃ i j, x = .int i ∧ y = .int j ∧ 0 < j ∧ Q (.int (i % j)) H
def zPow : R2 := fun x y H Q => ∃ i j, x = .int i ∧ y = .int j ∧ CPow i j ∧ Q (.int (i ^ j.toNat)) H
def zLt : R2 := fun x y H Q => ∃ i j, x = .int i ∧ y = .int j ∧ Q (.bl (decide (i < j))) H
def zLe : R2 := fun x y H Q => ∃ i j, x = .int i ∧ y = .int j ∧ Q (.bl (decide (i ≤ j))) H
def zGt : R2 := fun x y H Q => ∃ i j, x = .int i ∧ y = .int j ∧ Q (.bl (decide (j < i))) H
def zGe : R2 := fun x y H Q => ∃ i j, x = .int i ∧ y = .int j ∧ Q (.bl (decide (j ≤ i))) H
def zIsN : R2 := fun x y H Q => y = .non ∧ Q (.bl (decide (x = .non))) H
def zNotN : R2 := fun x y H Q => y = .non ∧ Q (.bl (!decide (x = .non))) H
theorem o_neg : UnR X (unaryOp .USub) zNeg := un_neg
theorem o_add : OpR X (binaryOp .Add) zAdd := op_add
theorem o_sub : OpR X (binaryOp .Sub) zSub := op_sub
theorem o_mul : OpR X (binaryOp .Mult) zMul := opI fun _ _ _ _ _ _ _ hc q => mul_int q hc
theorem o_div : OpR X (binaryOp .FloorDiv) zDiv := opI (C := fun _ j => j ≠ 0 ∧ j.natAbs.log2 < 9000) fun _ _ _ _ _ _ _ hc q => floordiv_int hc.1 q (.inl (PyProof.noPylong_of_log2 hc.2))
theorem o_mod : OpR X (binaryOp .Mod) zMod := op_mod
theorem o_pow : OpR X (binaryOp .Pow) zPow := op_pow
theorem o_lt : OpR X (compareOp .Lt) zLt := op_lt
theorem o_le : OpR X (compareOp .LtE) zLe := op_le
theorem o_gt : OpR X (compareOp .Gt) zGt := op_gt
theorem o_ge : OpR X (compareOp .GtE) zGe := op_ge
theorem o_isN : OpR X (compareOp .Is) zIsN := op_isN
theorem o_notN : OpR X (compareOp .IsNot) zNotN := op_notN
end
section
variable {K : PySem.W.Frag} {σ : L2.St} {H : Hp} {Q : VK} {v : V} {ta tb te : TE} {r r' : R2}
theorem z_var {i : Nat} (h : σ[i]? = some (some v)) (q : Q v H) : tVar i σ H Q := ⟨v, h, q⟩
theorem z_c (q : Q v H) : tC v σ H Q := q
theorem z_op (q : ta σ H fun x H1 => tb σ H1 fun y H2 => r x y H2 Q) : tOp r ta tb σ H Q := q
theorem z_un {u : V → Hp → VK → Prop} (q : ta σ H fun x H1 => u x H1 Q) : tUn u ta σ H Q := q
theorem z_neg {i : Int} (q : Q (.int (-i)) H) : zNeg (.int i) H Q := ⟨i, rfl, q⟩
theorem z_add {i j : Int} (q : Q (.int (i + j)) H) : zAdd (.int i) (.int j) H Q := ⟨i, j, rfl, rfl, q⟩
theorem z_sub {i j : Int} (q : Q (.int (i - j)) H) : zSub (.int i) (.int j) H Q := ⟨i, j, rfl, rfl, q⟩
theorem z_mul {i j : Int} (c : IntMulOk i j) (q : Q (.int (i * j)) H) : zMul (.int i) (.int j) H Q := ⟨i, j, rfl, rfl, c, q⟩
theorem z_mulL {i j : Int} (h1 : -18446744073709551616 < i) (h2 : i < 18446744073709551616) (q : Q (.int (i * j)) H) : zMul (.int i) (.int j) H Q := z_mul (CMul.ok (.inl ⟨by simpa using h1, by simpa using h2⟩)) q
theorem z_mulR {i j : Int} (h1 : -18446744073709551616 < j) (h2 : j < 18446744073709551616) (q : Q (.int (i * j)) H) : zMul (.int i) (.int j) H Q := z_mul (CMul.ok (.inr ⟨by simpa using h1, by simpa using h2⟩)) q
theorem z_mulB {i j : Int} {a b : Nat} (ha : Bits a i) (hb : Bits b j) (h0 : 0 < a) (h1 : 0 < b) (h : a + b ≤ 1000000) (q : Q (.int (i * j)) H) : zMul (.int i) (.int j) H Q := z_mul (CMulW.ok (wide_mul ha hb h0 h1 h)) q
theorem z_divN {i j : Int} {b : Nat} (h : j ≠ 0) (hb : Bits b j) (h0 : 0 < b) (h9 : b ≤ 9000) (q : Q (.int (i.fdiv j)) H) : zDiv (.int i) (.int j) H Q := ⟨i, j, rfl, rfl, ⟨h, Nat.lt_of_lt_of_le (PySem.Flt.log2_lt_of h0 hb) h9⟩, q⟩
theorem z_div {i j : Int} {b : Nat} (h : 0 < j) (hb : Bits b j) (h0 : 0 < b) (h9 : b ≤ 9000) (q : Q (.int (i / j)) H) : zDiv (.int i) (.int j) H Q := z_divN (by omega) hb h0 h9 (by rw [Int.fdiv_eq_ediv_of_nonneg i (by omega)]; exact q)
theorem z_divS {i j : Int} (h : 0 < j) (h2 : j < 18446744073709551616) (q : Q (.int (i / j)) H) : zDiv (.int i) (.int j) H Q := z_div (b := 64) h (by unfold Bits; have e : (2 : Nat) ^ 64 = 18446744073709551616 := by decide
                                                                                                                                                      omega) (by decide) (by decide) q
theorem z_mod {i j : Int} (c : 0 < j) (q : Q (.int (i % j)) H) : zMod (.int i) (.int j) H Q := ⟨i, j, rfl, rfl, c, q⟩
theorem z_pow {i j : Int} (c : CPow i j) (q : Q (.int (i ^ j.toNat)) H) : zPow (.int i) (.int j) H Q := ⟨i, j, rfl, rfl, c, q⟩
theorem z_lt {i j : Int} (q : Q (.bl (decide (i < j))) H) : zLt (.int i) (.int j) H Q := ⟨i, j, rfl, rfl, q⟩
theorem z_le {i j : Int} (q : Q (.bl (decide (i ≤ j))) H) : zLe (.int i) (.int j) H Q := ⟨i, j, rfl, rfl, q⟩
theorem z_gt {i j : Int} (q : Q (.bl (decide (j < i))) H) : zGt (.int i) (.int j) H Q := ⟨i, j, rfl, rfl, q⟩
theorem z_ge {i j : Int} (q : Q (.bl (decide (j ≤ i))) H) : zGe (.int i) (.int j) H Q := ⟨i, j, rfl, rfl, q⟩
theorem z_isN {x : V} (q : Q (.bl (decide (x = .non))) H) : zIsN x .non H Q := ⟨rfl, q⟩
theorem z_notN {x : V} (q : Q (.bl (!decide (x = .non))) H) : zNotN x .non H Q := ⟨rfl, q⟩
theorem z_eqI {i j : Int} (q : Q (.bl (decide (i = j))) H) : rEq (.int i) (.int j) H Q := ⟨rfl, by
  have e : decide (V.int i = V.int j) = decide (i = j) := by rw [Bool.eq_iff_iff]; simp
  rw [e]; exact q⟩
theorem z_neI {i j : Int} (q : Q (.bl (!decide (i = j))) H) : rNe (.int i) (.int j) H Q := ⟨rfl, by
  have e : decide (V.int i = V.int j) = decide (i = j) := by rw [Bool.eq_iff_iff]; simp
  rw [e]; exact q⟩
theorem z_nil {QA : List V → Hp → Prop} (q : QA [] H) : tNil σ H QA := q
theorem z_cons {tr : TA} {QA : List V → Hp → Prop} (q : ta σ H fun x H1 => tr σ H1 fun xs H2 => QA (x :: xs) H2) : tCons ta tr σ H QA := q
theorem z_call {sp : Sp} {dvs : List V} {W : WX} {t : TA} (q : t σ H fun vs H1 => sp (vs ++ dvs) H1 Q (fun cls d H' => W cls d σ H')) : tCallW sp dvs W t σ H Q := q
theorem z_cb {rc : List V → Hp → VK → Prop} {t : TA} (q : t σ H fun vs H1 => rc vs H1 Q) : tCB rc t σ H Q := q
theorem z_if {tt : TT} (q : tt σ H fun c H1 => if c = true then ta σ H1 Q else tb σ H1 Q) : tIf tt ta tb σ H Q := q
theorem z_andV (q : ta σ H fun x H1 => ∃ c, x = .bl c ∧ if c = true then tb σ H1 Q else Q (.bl false) H1) : tAndV ta tb σ H Q := q
theorem z_orV (q : ta σ H fun x H1 => ∃ c, x = .bl c ∧ if c = true then Q (.bl true) H1 else tb σ H1 Q) : tOrV ta tb σ H Q := q
theorem z_notV (q : ta σ H fun x H1 => ∃ c, x = .bl c ∧ Q (.bl (!c)) H1) : tNotV ta σ H Q := q
variable {QB : Bool → Hp → Prop} {b : Bool} {tt tu : TT}
theorem z_test (q : te σ H fun x H1 => ∃ k, x = .bl k ∧ QB k H1) : tTest te σ H QB := q
theorem z_tb (q : te σ H fun x H1 => ∃ k, x = .bl k ∧ QB k H1) : tB te σ H QB := q
theorem z_bl (q : QB b H) : ∃ k, V.bl b = .bl k ∧ QB k H := ⟨b, rfl, q⟩
theorem z_blI {P : Bool → Prop} (q : P b) : ∃ k, V.bl b = .bl k ∧ P k := ⟨b, rfl, q⟩
theorem z_and (q : tt σ H fun c H1 => if c = true then tu σ H1 QB else QB false H1) : tAnd tt tu σ H QB := q
theorem z_or (q : tt σ H fun c H1 => if c = true then QB true H1 else tu σ H1 QB) : tOr tt tu σ H QB := q
theorem z_not (q : tt σ H fun c H1 => QB (!c) H1) : tNot tt σ H QB := q
variable {D : Ends} {t u : TS}
theorem z_seq (q : t { D with nx := u D } σ H) : tSeq t u D σ H := q
theorem z_next (q : D.nx σ H) : tNext D σ H := q
theorem z_asg {i : Nat} (q : te σ H fun x H1 => D.nx (σ.set i (some x)) H1) : tAsg te (gName i) D σ H := q
theorem z_ret (q : te σ H D.rt) : tRet te D σ H := q
theorem z_retN (q : D.rt .non H) : tRetN D σ H := q
theorem z_drop (q : te σ H fun _ H1 => D.nx σ H1) : tDrop te D σ H := q
theorem z_ifS (q : tt σ H fun b H1 => if b = true then t D σ H1 else u D σ H1) : tIfS tt t u D σ H := q
theorem z_par {i j : Nat} {ta : TA} (q : ta σ H fun vs H1 => ∃ v w, vs = [v, w] ∧ D.nx ((σ.set i (some v)).set j (some w)) H1) : tPar i j ta D σ H := q
theorem z_par2 {v w : V} {P : V → V → Prop} (q : P v w) : ∃ v' w', [v, w] = [v', w'] ∧ P v' w' := ⟨v, w, rfl, q⟩
theorem z_nx {n : L2.St → Hp → Prop} {rt : VK} {bk ct : L2.St → Hp → Prop} (q : n σ H) : Ends.nx ⟨n, rt, bk, ct⟩ σ H := q
theorem z_rt {n : L2.St → Hp → Prop} {rt : VK} {bk ct : L2.St → Hp → Prop} (q : rt v H) : Ends.rt ⟨n, rt, bk, ct⟩ v H := q
theorem z_bk {n : L2.St → Hp → Prop} {rt : VK} {bk ct : L2.St → Hp → Prop} (q : bk σ H) : Ends.bk ⟨n, rt, bk, ct⟩ σ H := q
theorem z_ct {n : L2.St → Hp → Prop} {rt : VK} {bk ct : L2.St → Hp → Prop} (q : ct σ H) : Ends.ct ⟨n, rt, bk, ct⟩ σ H := q
theorem z_break (q : D.bk σ H) : tBreak D σ H := q
theorem z_cont (q : D.ct σ H) : tCont D σ H := q
/-- a decided branch -/
theorem z_T {A B : Prop} (h : A) : if true = true then A else B := by rw [if_pos rfl]; exact h
theorem z_F {A B : Prop} (h : B) : if false = true then A else B := by rw [if_neg Bool.false_ne_true]; exact h
theorem z_dT {c : Prop} [Decidable c] {A B : Prop} (hc : c) (h : A) : if decide c = true then A else B := by rw [if_pos (decide_eq_true hc)]; exact h
theorem z_dF {c : Prop} [Decidable c] {A B : Prop} (hc : ¬ c) (h : B) : if decide c = true then A else B := by rw [decide_eq_false hc, if_neg Bool.false_ne_true]; exact h
theorem z_d2 {c : Prop} [Decidable c] {A B : Prop} (h1 : c → A) (h2 : ¬ c → B) : if decide c = true then A else B := by
  by_cases h : c
  · exact z_dT h (h1 h)
  · exact z_dF h (h2 h)
theorem z_b2 {b : Bool} {A B : Prop} (h1 : b = true → A) (h2 : b = false → B) : if b = true then A else B := by
  cases b
  · exact z_F (h2 rfl)
  · exact z_T (h1 rfl)
theorem z_nn {b : Bool} {A B : Prop} (h : if b = true then B else A) : if (!b) = true then A else B := by
  cases b
  · exact z_T (by simpa using h)
  · exact z_F (by simpa using h)
end
end Z
set_option maxHeartbeats 4000000
namespace Z
open PySem PySem.Spec PyProof.Rows L2
def seenK (fb : List Chk) (fn : List He.DefD) (K : Frag) : SeenZ := ((fb.all fun c => c K) && fn.all fun d => d.ok K, fn.map fun d => He.fnW K d.at_)
def dueK (fn : List He.DefD) : SeenZ := (true, fn.map He.DefD.val)
def Says (fb : List Chk) (fn : List He.DefD) (K : Frag) : Prop := seenK fb fn K = dueK fn
section
variable {fb : List Chk} {fn : List He.DefD} {K : Frag}
theorem Says.fact (c : Says fb fn K) (i : Nat) {f : Chk} (h : fb[i]? = some f := by rfl) : f K = true := by
  have q := (He.ba (congrArg (fun z : SeenZ => z.1) c)).1
  exact List.all_eq_true.mp q f (List.mem_of_getElem? h)
theorem Says.def_ (c : Says fb fn K) (i : Nat) {d : He.DefD} (h : fn[i]? = some d := by rfl) : ∃ fd, FunD K d.name d.qual d.params d.body d.scope (d.dvs K) (d.kws K) (He.fAd K d.at_) fd := by
  have q := (He.ba (congrArg (fun z : SeenZ => z.1) c)).2
  have e : fn.map (fun d => He.fnW K d.at_) = fn.map He.DefD.val := congrArg (fun z : SeenZ => z.2) c
  have e2 := congrArg (fun l => l[i]?) e
  simp only [List.getElem?_map, h, Option.map_some] at e2
  exact He.DefD.funD (Option.some.inj e2) (List.all_eq_true.mp q d (List.mem_of_getElem? h))
end
/-- an exception class whose own __init__ is walked -/
theorem oexB_ok {K : Frag} {C : Addr} (h : oexB K C = true) : ∃ nm q N bs bm sn sub ab col dd k0 k1 k2 k3 k5, K.lookup C = some (excClassObj nm q C N bs bm true sn sub ab col dd k0 k1 k2 k3 k5 "ValueError.__new__") ∧ PySem.HandSPX.refsVE bm = true := by
  unfold oexB at h
  split at h
  · rename_i t dd cd sl ho
    split at h
    · rename_i C' bm k0 k1 k2 k3 n k5 hm hs
      obtain ⟨h1, h⟩ := He.ba h
      obtain ⟨h2, h⟩ := He.ba h
      obtain ⟨h3, h⟩ := He.ba h
      obtain ⟨h4, h⟩ := He.ba h
      obtain ⟨h5, h6⟩ := He.ba h
      have e1 := of_decide_eq_true h1
      have e2 := of_decide_eq_true h2
      have e3 := of_decide_eq_true h3
      obtain ⟨nm, bs, mro, ns, qn, hd, sn, sub, ab, col, del⟩ := cd
      have e4 : del = false := by simpa using h4
      have e5 : hd = true := h5
      dsimp only at hm
      subst hm e4 e5 e1 e2 e3
      have hsl : sl = #[k0, k1, k2, k3, some (.builtin "ValueError.__new__"), k5] := by
        obtain ⟨l⟩ := sl
        simp only at hs
        rw [hs]
      subst hsl
      exact ⟨nm, qn, ns, bs, bm, sn, sub, ab, col, dd, k0, k1, k2, k3, k5, ho, h6⟩
    · cases h
  · cases h
theorem oex_ok {K : Frag} {x : Str} (h : cOex x K = true) : OexC K (He.ga K x) ∧ PySem.W.findIn K (.ref (He.ga K x)) "__init__" = some (some (.ref (He.ma K (He.ga K x) "__init__"))) ∧ PySem.W.typeIn K (.ref (He.ma K (He.ga K x) "__init__")) = some (.type "function") := by
  obtain ⟨h1, h⟩ := He.ba h
  obtain ⟨h2, h⟩ := He.ba h
  obtain ⟨h3, h⟩ := He.ba h
  obtain ⟨h4, h⟩ := He.ba h
  obtain ⟨h5, h⟩ := He.ba h
  obtain ⟨h6, h7⟩ := He.ba h
  exact ⟨⟨oexB_ok h1, He.eqO_ok h2, of_decide_eq_true h3, of_decide_eq_true h4, h5⟩, He.eqO_ok h6, of_decide_eq_true h7⟩
/-- an exception of this class caught: its fields, isinstance -/
theorem excC_ok {K : Frag} {x : Str} (h : cExcC x K = true) : ExcC K (He.ga K x) := by
  obtain ⟨h1, h⟩ := He.ba h
  obtain ⟨h2, h⟩ := He.ba h
  obtain ⟨h3, h⟩ := He.ba h
  obtain ⟨h4, h⟩ := He.ba h
  obtain ⟨h5, h⟩ := He.ba h
  obtain ⟨h6, h⟩ := He.ba h
  obtain ⟨h7, h8⟩ := He.ba h
  exact ⟨He.eqO_ok h1, He.eqO_ok h2, of_decide_eq_true h3, h4, He.eqO_ok h5, of_decide_eq_true h6, of_decide_eq_true h7, of_decide_eq_true h8⟩
theorem _root_.L2.ExcC.xf {K : Frag} {C : Addr} (c : ExcC K C) : XfC K C := ⟨c.hg, c.hk, c.hs, c.hd⟩
/-- isinstance of an instance of this class -/
structure InsK (K : Frag) (C : Addr) : Prop where
  cl : Cls K C
  ha : PySem.W.findIn K (.ref C) "__class__" = some (some (.builtin "object.__class__"))
  hn : PySem.W.specialIn K (.builtin "object.__class__") "__get__" = some (some (.builtin "getset_descriptor.__get__"))
  ht : PySem.W.takesIn K (.builtin "object.__class__") = some true
  hm : PySem.W.mroIn K C (.type "object") = some true
theorem InsK.ty {K : Frag} {C a dx : Addr} {fs : List (Str × V)} {H : Hp} (c : InsK K C) (h : H a = some (.ins C dx fs)) : TyX K H (.ref a) (.ref C) := .base (.ins h c.cl c.ha c.hn c.ht c.hm)
theorem insK_ok {K : Frag} {x : Str} (h : cIns x K = true) : InsK K (He.ga K x) := by
  obtain ⟨h1, h⟩ := He.ba h
  obtain ⟨h5, h⟩ := He.ba h
  obtain ⟨h6, h⟩ := He.ba h
  obtain ⟨h7, h8⟩ := He.ba h
  exact ⟨He.cls_ok h1, He.eqO_ok h5, of_decide_eq_true h6, of_decide_eq_true h7, of_decide_eq_true h8⟩
/-- isinstance's answer for an instance of x asked for the class y; for a value of the built-in type t asked for y; for an instance of x asked for the built-in type t -/
def rIsX (K : Frag) (D : Addr) (a : Addr) : List V → Hp → VK → Prop := fun xs H Q => ∃ (c : V) (cv : Value) (b : Bool), xs = [.ref a, c] ∧ ClsV c cv ∧ PySem.W.kitOne K (.ref D) cv = some b ∧ Q (.bl b) H
/-- the caught one's class is D, its dict none or a tracked one -/
theorem call_isEx {X : Cx} {a D : Addr} {oe : Obj} {cls : Value} {d : Option Addr} {pn : List (Addr × Obj)} (C : ExcC X.K D) (hz : Zc cls d oe) (hf : ∃ vs, oe.data = .fields vs) :
    CallR (X.suite a ((a, oe) :: pn)) (.builtin "isinstance") (fun xs H Q => cls = .ref D ∧ (∀ dd, d = some dd → ∃ fs, H dd = some (.xd fs)) ∧ rIsX X.K D a xs H Q) := by
  intro pi s0 sl H0 xs us Q0 J r h0
  obtain ⟨ec, hd, c, cv, b, rfl, kc, e, q⟩ := h0
  obtain ⟨u1, u2, rfl, r1, r2⟩ := vals2 r
  obtain rfl : u1 = Value.ref a := r1
  have e2 := kc.eq r2
  subst e2
  subst ec
  obtain ⟨hget, _⟩ := J.pin (a, oe) (List.mem_append_left _ List.mem_cons_self)
  obtain ⟨vs, hv⟩ := hf
  have nc : PySem.W.notCls oe := by unfold PySem.W.notCls; rw [hv] <;> rfl
  have inst : ∃ od, PySem.W.InstAt s0.heap a oe D od := by
    cases d with
    | none => exact ⟨none, hget, hz.1, nc, by rw [hz.2]; trivial⟩
    | some dd =>
      obtain ⟨fs, hx⟩ := hd dd rfl
      have ox : ObjOk X.prog X.w H0 s0.heap dd (.xd fs) := J.hok dd _ hx
      obtain ⟨mA, hns, _⟩ := ox
      obtain ⟨od, ho, _⟩ := lookIn_ns hns
      exact ⟨some od, hget, hz.1, nc, by rw [hz.2]; exact ho⟩
  obtain ⟨od, I0⟩ := inst
  have hcl : (PySem.W.clsIn X.K D).isSome = true := by
    obtain ⟨cdD, hcD, _⟩ := PySem.W.any_some C.hd
    rw [hcD] <;> rfl
  exact PySem.W.kia_one (PySem.W.kitx_exc hcl C.hg C.hk C.hs C.ha C.hn C.ht C.hm) J.kIn I0 e (fun z => nomatch z) fun tk => ⟨.bl b, H0, J.kept (t' := tk) fun _ _ z => z, rfl, q⟩
section
variable {X : Cx} {k j : Nat} {sp : Sp} {x : Str} {p pos : Pos} {e : Expr} {es : List Expr} {t : TA}
theorem takesF {X : Cx} : L2N.Takes X (fun _ _ _ _ => False) := fun _ _ ⟨_, _, _, _, _, _, _, _, _, _, _, _, _, _, _, _, z⟩ => z.elim
theorem pe_ch (c : CalH X.prog X.w X.K X.mg X.base k x sp) (hr : L2H.RoomH j X.A) (hk : k ≤ j) (hot : L2H.HotC X) (ha : PA X (e :: es) t) (hg : Gl X x := by rfl)
    (hdb : (x == ("__debug__" : Str)) = false := by decide) (he : starEach (e :: es) X.env = (false, eval e X.env) :: starEach es X.env := by rfl) (hpl : (backTo pos (starEach es X.env)).any (·.1) = false := by rfl) :
    PE X (.Call (.Name x p) (e :: es) [] pos) (tCallW sp [] (fun _ _ _ _ => False) t) := by
  obtain ⟨f, fd, ps, F, hm, kp, b⟩ := c.ex
  have h := L2H.pe_callH (E := fun _ _ _ _ => False) F (hr.mono hk) hot hg hm kp b (fun σ => L2N.passAt takesF σ) ha (q := p) hdb he hpl
  refine ⟨fun pi s0 sl H0 Q0 J h0 => h.run pi s0 sl H0 Q0 J ?_⟩
  have e1 : (tCallW sp [] (fun _ _ _ _ => False) t) = L2.tCallS sp (fun _ _ _ _ => False) t := by
    unfold tCallW L2.tCallS
    funext σ H Q
    simp only [List.append_nil]
  rw [← e1]
  exact h0
end
theorem pe_ty {X : Cx} {x : Str} {pos : Pos} (n : String) (hg : Gl X x) (hm : X.mg x = none) (hv : bootBuiltins x = some (.type n)) (hn : x ≠ "__name__" := by decide) (hd : (x == ("__debug__" : Str)) = false := by decide) : PE X (.Name x pos) (tC (.ty n)) :=
  pe_bltn (v := .ty n) (u := .type n) hg hm hv rfl hn hd
theorem pe_cls {X : Cx} {x : Str} {pos : Pos} {a : Addr} (hm : X.mg x = some (.ref a)) (hg : Gl X x := by rfl) (hd : (x == ("__debug__" : Str)) = false := by decide) : PE X (.Name x pos) (tC (.ref a)) :=
  pe_glob (v := .ref a) (u := .ref a) hg hm rfl hd
abbrev F1 := V → Hp → VK → XK → Prop
abbrev F2 := V → V → Hp → VK → XK → Prop
abbrev F3 := V → V → V → Hp → VK → XK → Prop
abbrev F4 := V → V → V → V → Hp → VK → XK → Prop
abbrev F5 := V → V → V → V → V → Hp → VK → XK → Prop
abbrev F6 := V → V → V → V → V → V → Hp → VK → XK → Prop
def sp1 (f : F1) : Sp := fun vs H Q E => ∃ a, vs = [a] ∧ f a H Q E
def sp2 (f : F2) : Sp := fun vs H Q E => ∃ a b, vs = [a, b] ∧ f a b H Q E
def sp3 (f : F3) : Sp := fun vs H Q E => ∃ a b c, vs = [a, b, c] ∧ f a b c H Q E
def sp4 (f : F4) : Sp := fun vs H Q E => ∃ a b c d, vs = [a, b, c, d] ∧ f a b c d H Q E
def sp5 (f : F5) : Sp := fun vs H Q E => ∃ a b c d e, vs = [a, b, c, d, e] ∧ f a b c d e H Q E
def sp6 (f : F6) : Sp := fun vs H Q E => ∃ a b c d e g, vs = [a, b, c, d, e, g] ∧ f a b c d e g H Q E
section
variable {H : Hp} {Q : VK} {E : XK} {a b c d e g : V} {vs : List V}
theorem len1 {f : F1} : ∀ vs H Q E, sp1 f vs H Q E → vs.length = 1 := by rintro _ _ _ _ ⟨_, rfl, _⟩; rfl
theorem len2 {f : F2} : ∀ vs H Q E, sp2 f vs H Q E → vs.length = 2 := by rintro _ _ _ _ ⟨_, _, rfl, _⟩; rfl
theorem len3 {f : F3} : ∀ vs H Q E, sp3 f vs H Q E → vs.length = 3 := by rintro _ _ _ _ ⟨_, _, _, rfl, _⟩; rfl
theorem len4 {f : F4} : ∀ vs H Q E, sp4 f vs H Q E → vs.length = 4 := by rintro _ _ _ _ ⟨_, _, _, _, rfl, _⟩; rfl
theorem len5 {f : F5} : ∀ vs H Q E, sp5 f vs H Q E → vs.length = 5 := by rintro _ _ _ _ ⟨_, _, _, _, _, rfl, _⟩; rfl
theorem len6 {f : F6} : ∀ vs H Q E, sp6 f vs H Q E → vs.length = 6 := by rintro _ _ _ _ ⟨_, _, _, _, _, _, rfl, _⟩; rfl
theorem z_sq0 {sp : Sp} (h : sp vs H Q E) : sp (vs ++ []) H Q E := by rw [List.append_nil]; exact h
theorem z_sq1 {sp : Sp} (h : sp (a :: vs) H Q E) : sp (a :: (vs ++ [])) H Q E := by rw [List.append_nil]; exact h
end
end Z
namespace Z
open PySem PySem.Spec PyProof.Rows L2
/-- a def of which nothing is raised -/
theorem fn_quiet {P : Program} {w : World} {K : Frag} {mg : Str → Option Value} {base : Heap} {k : Nat} {f : Addr} {fd : FuncData} {ps : List Str} {sp : Sp} (F : FnOk P w K mg base (L2N.CX P w) k f fd ps sp) (hs : ∀ vs H Q E, sp vs H Q E → sp vs H Q (fun _ _ _ => False)) :
    FnOk P w K mg base L2.CX0 k f fd ps sp :=
  ⟨F.len, fun A outer s H args us vs Q E hr he hb hv h => codeAny_mono (F.run A outer s H args us vs Q _ hr he hb hv (hs _ _ _ _ h)) fun r s1 q => by
    match r, q with
    | .ok (.ret u), q => exact q
    | .error e, q =>
      obtain ⟨_, _, _, _, _, _, _, _, _, _, _, _, z⟩ := q
      exact z.elim⟩
end Z
set_option maxHeartbeats 4000000
namespace Z
open PySem PySem.Spec PyProof.Rows L2
section
variable {K : Frag} {H H' H1 H2 : Hp} {Q : VK} {a : Addr} {xs : List V} {o : HO}
theorem Same.at (e : Same H H') (h : H a = some o) : H' a = some o := e a o h
theorem Same.new {p : Addr} (h : H p = none) : Same H (upd H p o) := fun b u hb => by rw [upd_ne (ne_of_none hb h)]; exact hb
theorem z_ixT {p : Addr} {i : Int} {v : V} (h : H p = some (.tup xs)) (e : atI xs i = some v) (q : Q v H) : rIx K (.ref p) (.int i) H Q := .inr (.inl ⟨p, xs, i, v, rfl, rfl, SqT.of h, e, q⟩)
theorem z_ixL {p : Addr} {i : Int} {v : V} (h : SqL K H p xs) (e : atI xs i = some v) (q : Q v H) : rIx K (.ref p) (.int i) H Q := .inl ⟨p, xs, i, v, rfl, rfl, h, e, q⟩
theorem z_new {t : List V → HO} {n : Nat} (hn : n ≤ 16777216) (k : ∀ p, H p = none → Same H (upd H p (t xs)) → upd H p (t xs) p = some (t xs) → Q (.ref p) (upd H p (t xs))) : n ≤ sizeLine ∧ ∀ p, H p = none → Q (.ref p) (upd H p (t xs)) :=
  ⟨by rw [sizeLine_eq]; exact hn, fun p hp => k p hp (Same.new hp) upd_same⟩
def rInt1 : List V → Hp → VK → Prop := fun xs H Q => (∃ i, xs = [.int i] ∧ Q (.int i) H) ∨ ∃ k, xs = [.bl k] ∧ Q (.int (if k then 1 else 0)) H
def rAbs1 : List V → Hp → VK → Prop := fun xs H Q => ∃ i, xs = [.int i] ∧ Q (.int (if i < 0 then -i else i)) H
def rLen1 (K : Frag) : List V → Hp → VK → Prop := fun xs H Q => ∃ x n, xs = [x] ∧ LenV K x H n ∧ Q (.int n) H
def rMax2z : List V → Hp → VK → Prop := fun xs H Q => ∃ i j, xs = [.int i, .int j] ∧ Q (.int (if j > i then j else i)) H
def rMin2z : List V → Hp → VK → Prop := fun xs H Q => ∃ i j, xs = [.int i, .int j] ∧ Q (.int (if j < i then j else i)) H
theorem z_int1 {n : Int} (q : Q (.int n) H) : rInt1 [.int n] H Q := .inl ⟨n, rfl, q⟩
theorem z_intb {b : Bool} (q : Q (.int (if b then 1 else 0)) H) : rInt1 [.bl b] H Q := .inr ⟨b, rfl, q⟩
theorem z_abs {n : Int} (q : Q (.int (n.natAbs : Int)) H) : rAbs1 [.int n] H Q := ⟨n, rfl, by
  have e : (if n < 0 then -n else n) = (n.natAbs : Int) := by split <;> omega
  rw [e]; exact q⟩
theorem z_lenL {p : Addr} (h : SqL K H p xs) (q : Q (.int (xs.length : Int)) H) : rLen1 K [.ref p] H Q := ⟨_, _, rfl, .inl ⟨xs, h, rfl⟩, q⟩
theorem z_lenT {p : Addr} (h : H p = some (.tup xs)) (q : Q (.int (xs.length : Int)) H) : rLen1 K [.ref p] H Q := ⟨_, _, rfl, .inr ⟨xs, SqT.of h, rfl⟩, q⟩
theorem z_max2 {i j : Int} (q : Q (.int (max i j)) H) : rMax2z [.int i, .int j] H Q := ⟨i, j, rfl, by
  have e : (if j > i then j else i) = max i j := by rw [Int.max_def]; split <;> split <;> omega
  rw [e]; exact q⟩
theorem z_min2 {i j : Int} (q : Q (.int (min i j)) H) : rMin2z [.int i, .int j] H Q := ⟨i, j, rfl, by
  have e : (if j < i then j else i) = min i j := by rw [Int.min_def]; split <;> split <;> omega
  rw [e]; exact q⟩
theorem z_gcd {i j : Int} (q : Q (.int (Int.gcd i j : Nat)) H) : rGcd [.int i, .int j] H Q := ⟨i, j, rfl, q⟩
theorem z_isi {x c : V} {t u : Value} {b : Bool} (hc : ClsV c u) (ht : TyX K H x t) (hk : PySem.W.kitOne K t u = some b) (q : Q (.bl b) H) : rIsi K [x, c] H Q := ⟨x, c, t, u, b, rfl, hc, ht, hk, q⟩
theorem z_isiI {n : String} {b : Bool} {i : Int} (hk : kitB "int" n = some b) (q : Q (.bl b) H) : rIsi K [.int i, .ty n] H Q := z_isi (.ty n) (.base (.int i)) (kit_ty hk) q
theorem z_isiB {n : String} {b c : Bool} (hk : kitB "bool" n = some b) (q : Q (.bl b) H) : rIsi K [.bl c, .ty n] H Q := z_isi (.ty n) (.base (.bl c)) (kit_ty hk) q
theorem z_isi_ii {i : Int} (q : Q (.bl true) H) : rIsi K [.int i, .ty "int"] H Q := z_isiI (by decide +kernel) q
theorem z_isi_ib {i : Int} (q : Q (.bl false) H) : rIsi K [.int i, .ty "bool"] H Q := z_isiI (by decide +kernel) q
theorem cell_at {ns : List Int} {k : Int} (h0 : 0 ≤ k) (h : k < ((ns.map V.int).length : Int)) : atI (ns.map V.int) k = some (.int (ns.getD k.toNat 0)) := by
  obtain ⟨n, rfl⟩ := Int.eq_ofNat_of_zero_le h0
  have hn : n < ns.length := by
    rw [List.length_map] at h
    omega
  refine atI_nat ?_
  rw [List.getElem?_map, List.getElem?_eq_getElem hn]
  show some (V.int ns[n]) = some (V.int (ns.getD n 0))
  rw [List.getD_eq_getElem?_getD, List.getElem?_eq_getElem hn]
  rfl
end
section
variable {X : Cx}
theorem o_int1 : CallR X (.type "int") rInt1 := call_int1
theorem o_abs : CallR X (.builtin "abs") rAbs1 := call_abs
theorem o_len : CallR X (.builtin "len") (rLen1 X.K) := call_len
theorem o_max2 (hc : X.calm = true) : CallR X (.builtin "max") rMax2z := call_max2 hc
theorem o_min2 (hc : X.calm = true) : CallR X (.builtin "min") rMin2z := call_min2 hc
end
/-- the fields of a Ratio -/
def rF (v w : V) : List (Str × V) := [(("top" : Str), v), (("bottom" : Str), w)]
/-- a Ratio with these fields -/
def IsR (K : Frag) (H : Hp) (a : Addr) (t b : Int) : Prop := ∃ dx, H a = some (.ins (He.ga K "Ratio") dx (rF (.int t) (.int b)))
section
variable {K : Frag} {H H' : Hp} {Q : VK} {a : Addr} {t b : Int} {v w : V}
theorem IsR.mono (e : Same H H') (h : IsR K H a t b) : IsR K H' a t b := h.elim fun dx q => ⟨dx, e _ _ q⟩
theorem tb_ne : ¬ (("top" : Str) = "bottom") := by decide +kernel
theorem bt_ne : ¬ (("bottom" : Str) = "top") := by decide +kernel
theorem rf_top : (rF v w).lookup ("top" : Str) = some v := by
  unfold rF
  rw [lookup_put, if_pos rfl]
theorem rf_bottom : (rF v w).lookup ("bottom" : Str) = some w := by
  unfold rF
  rw [lookup_put, if_neg bt_ne, lookup_put, if_pos rfl]
theorem rf_no {m : Str} (h1 : ¬ m = "top") (h2 : ¬ m = "bottom") : (rF v w).lookup m = none := by
  unfold rF
  rw [lookup_put, if_neg h1, lookup_put, if_neg h2]
  rfl
/-- .. of a name that holds one -/
theorem z_fldt {i : Nat} {p : Addr} {t b : Int} {σ : L2.St} (c : Cls K (He.ga K "Ratio")) (n : NoAttr K (He.ga K "Ratio") "top") (hs : σ[i]? = some (some (.ref p))) (h : IsR K H p t b) (q : Q (.int t) H) : tFld K (tVar i) "top" σ H Q :=
  ⟨_, hs, h.elim fun dx hp => ⟨p, _, dx, _, _, rfl, hp, c, n, rf_top, q⟩⟩
theorem z_fldb {i : Nat} {p : Addr} {t b : Int} {σ : L2.St} (c : Cls K (He.ga K "Ratio")) (n : NoAttr K (He.ga K "Ratio") "bottom") (hs : σ[i]? = some (some (.ref p))) (h : IsR K H p t b) (q : Q (.int b) H) : tFld K (tVar i) "bottom" σ H Q :=
  ⟨_, hs, h.elim fun dx hp => ⟨p, _, dx, _, _, rfl, hp, c, n, rf_bottom, q⟩⟩
end
end Z
set_option maxHeartbeats 4000000
namespace Z
open PySem PySem.Spec PyProof.Rows L2
section
variable {P : Program} {w : World} {K : Frag} {mg : Str → Option Value} {base : Heap} {x qual : Str} {params : Arguments} {body : List Stmt} {scope : Scope} {dvs : List V} {kws : List (Str × V)} {f : Addr} {fd : FuncData}
theorem okH {N ps : List Str} {k : Nat} {sp : Sp} (F : FunD K x qual params body scope dvs kws f fd) (S : FnScope N ps scope) (len : ∀ vs H Q E, sp vs H Q E → vs.length = ps.length)
    (hbody : ∀ (cdv : Value) (A : Around) (outer : List Env) (s : Shared) (H : Hp) (vs : List V) (Q : VK) (E : XK) (p : Addr × Obj), L2H.Hot1 (A.deeper (envOfC qual scope s.heap.objs.size f cdv)) p → L2H.RoomH k (A.deeper (envOfC qual scope s.heap.objs.size f cdv)) → sp vs H Q E →
      ∃ t, PSs (L2H.cxH (L2N.CX P w) P w K mg base N qual scope f cdv A outer s H E p) body t ∧ t { nx := fun _ H' => Q .non H', rt := Q } (start N vs) H) : L2H.FnH P w K mg base (L2N.CX P w) (k + 1) f fd ps sp := by
  obtain ⟨oc, od, dV, kV, doc, pm, an, cdv, ct, osl, rfl, lk, hcd, _, _⟩ := F.ex
  exact L2H.fn_ofH lk hcd S len fun A outer s H vs Q E p h1 hr hsp => hbody cdv A outer s H vs Q E p h1 hr hsp
end
theorem hot_suite {X : Cx} {a : Addr} {oe : Obj} {cls : Value} {d : Option Addr} {pn : List (Addr × Obj)} (hz : L2N.Zn cls d oe) (hf : ∃ vs, oe.data = .fields vs) : L2H.HotC (X.suite a ((a, oe) :: pn)) := by
  obtain ⟨vs, hv⟩ := hf
  exact ⟨(a, oe), ⟨rfl, vs, hv, hz.2.2 vs hv⟩, List.mem_cons_self⟩
theorem room_suite {k : Nat} {A : Around} (r : Room k A) (h : Option Value) : L2H.RoomH k (A.mark h) := ⟨r.dp, r.un⟩
def fs_ex1 (K : Frag) (C : Str) (f : Str) : F2 := fun a b H Q _ => ∃ (e : Addr) (H0 : Hp), a = .ref e ∧ H = upd H0 e (exo e (He.ga K C) none) ∧ H0 e = none ∧
  ∀ (d : Addr) (H' : Hp), H' e = some (exo e (He.ga K C) (some d)) → H' d = some (exd d [(f, b)]) → H0 d = none → Same H0 (upd (del H' e) d (.xd [(f, b)])) → Q .non H'
def fs_ex2 (K : Frag) (C : Str) (f g : Str) : F3 := fun a b c H Q _ => ∃ (e : Addr) (H0 : Hp), a = .ref e ∧ H = upd H0 e (exo e (He.ga K C) none) ∧ H0 e = none ∧
  ∀ (d : Addr) (H' : Hp), H' e = some (exo e (He.ga K C) (some d)) → H' d = some (exd d [(g, c), (f, b)]) → H0 d = none → Same H0 (upd (del H' e) d (.xd [(g, c), (f, b)])) → Q .non H'
section
variable {K : Frag} {H H0 : Hp} {Q : VK} {E : XK} {C : Str} {f g : Str} {b c : V} {D : Ends} {σ : L2.St}
/-- self.f = b -/
theorem run_ex1 {e : Addr} (T : OexC K (He.ga K C)) (nf : PySem.W.findIn K (.ref (He.ga K C)) f = some none) (h0 : H0 e = none) (s0 : σ[0]? = some (some (.ref e))) (s1 : σ[1]? = some (some b))
    (k : ∀ (d : Addr) (H' : Hp), H' e = some (exo e (He.ga K C) (some d)) → H' d = some (exd d [(f, b)]) → H0 d = none → Same H0 (upd (del H' e) d (.xd [(f, b)])) → D.nx σ H') :
    tOst K f (tVar 0) (tVar 1) D σ (upd H0 e (exo e (He.ga K C) none)) := by
  refine ⟨_, s1, _, s0, e, _, rfl, T, nf, .inl ⟨upd_same, fun d hd ne => ?_⟩⟩
  have hd0 : H0 d = none := by rw [upd_ne ne] at hd; exact hd
  refine k d _ upd_same (by rw [upd_ne ne, upd_same]) hd0 fun x o hx => ?_
  rw [upd_ne (ne_of_none hx hd0), del_ne (ne_of_none hx h0), upd_ne (ne_of_none hx h0), upd_ne (ne_of_none hx hd0), upd_ne (ne_of_none hx h0)]
  exact hx
theorem run_ex2 {e : Addr} (T : OexC K (He.ga K C)) (nf : PySem.W.findIn K (.ref (He.ga K C)) f = some none) (ng : PySem.W.findIn K (.ref (He.ga K C)) g = some none) (h0 : H0 e = none) (s0 : σ[0]? = some (some (.ref e))) (s1 : σ[1]? = some (some b)) (s2 : σ[2]? = some (some c))
    (k : ∀ (d : Addr) (H' : Hp), H' e = some (exo e (He.ga K C) (some d)) → H' d = some (exd d [(g, c), (f, b)]) → H0 d = none → Same H0 (upd (del H' e) d (.xd [(g, c), (f, b)])) → D.nx σ H') :
    tSeq (tOst K f (tVar 0) (tVar 1)) (tOst K g (tVar 0) (tVar 2)) D σ (upd H0 e (exo e (He.ga K C) none)) := by
  refine ⟨_, s1, _, s0, e, _, rfl, T, nf, .inl ⟨upd_same, fun d hd ne => ?_⟩⟩
  have hd0 : H0 d = none := by rw [upd_ne ne] at hd; exact hd
  refine ⟨_, s2, _, s0, e, _, rfl, T, ng, .inr ⟨d, _, upd_same, by rw [upd_ne ne, upd_same], (by show 1 ≤ 900; decide), ?_⟩⟩
  refine k d _ (by rw [upd_ne ne.symm, upd_same]) upd_same hd0 fun x o hx => ?_
  rw [upd_ne (ne_of_none hx hd0), del_ne (ne_of_none hx h0), upd_ne (ne_of_none hx hd0), upd_ne (ne_of_none hx h0), upd_ne (ne_of_none hx hd0), upd_ne (ne_of_none hx h0)]
  exact hx
end
def rc (n d : Int) : Int := if d < 0 then -((Int.gcd n d : Nat) : Int) else ((Int.gcd n d : Nat) : Int)
def rt (n d : Int) : Int := n.fdiv (rc n d)
def rb (n d : Int) : Int := d.fdiv (rc n d)
theorem rc_ne {n d : Int} (h : d ≠ 0) : rc n d ≠ 0 := by
  have : 0 < Int.gcd n d := Int.gcd_pos_of_ne_zero_right n h
  unfold rc
  split <;> omega
theorem rc_bits {n d : Int} {b : Nat} (h : d ≠ 0) (hb : Bits b d) : Bits b (rc n d) := by
  have h1 : Int.gcd n d ≤ d.natAbs := Nat.le_of_dvd (by omega) (by
    show Nat.gcd n.natAbs d.natAbs ∣ d.natAbs
    exact Nat.gcd_dvd_right _ _)
  unfold Bits at *
  unfold rc
  split <;> omega
theorem rt_pos {n d : Int} (h : 0 < d) : rt n d = n / (Int.gcd n d : Nat) ∧ rb n d = d / (Int.gcd n d : Nat) := by
  have e : rc n d = ((Int.gcd n d : Nat) : Int) := by unfold rc; rw [if_neg (by omega)]
  unfold rt rb
  rw [e, Int.fdiv_eq_ediv_of_nonneg _ (by omega), Int.fdiv_eq_ediv_of_nonneg _ (by omega)]
  exact ⟨rfl, rfl⟩
theorem rt_low {n d : Int} (h : 0 < d) (g : Int.gcd n d = 1) : rt n d = n ∧ rb n d = d := by
  obtain ⟨e1, e2⟩ := rt_pos (n := n) h
  rw [e1, e2, g]
  exact ⟨Int.ediv_one n, Int.ediv_one d⟩
theorem rt_spec {n d : Int} (h : 0 < d) : 0 < rb n d ∧ Int.gcd (rt n d) (rb n d) = 1 ∧ rt n d * d = n * rb n d := by
  obtain ⟨e1, e2⟩ := rt_pos (n := n) h
  have g0 : 0 < Int.gcd n d := Int.gcd_pos_of_ne_zero_right n (by omega)
  rw [e1, e2]
  refine ⟨?_, ?_, ?_⟩
  · exact Int.ediv_pos_of_pos_of_dvd h (by omega) (Int.gcd_dvd_right ..)
  · exact Int.gcd_ediv_gcd_ediv_gcd g0
  · obtain ⟨x, ex⟩ := Int.gcd_dvd_left (a := n) (b := d)
    obtain ⟨y, ey⟩ := Int.gcd_dvd_right (a := n) (b := d)
    generalize ((Int.gcd n d : Nat) : Int) = g at *
    have gn : g ≠ 0 := by
      intro z
      subst z
      simp at ey
      omega
    have q1 : n / g = x := by rw [ex, Int.mul_ediv_cancel_left _ gn]
    have q2 : d / g = y := by rw [ey, Int.mul_ediv_cancel_left _ gn]
    rw [q1, q2, ex, ey]
    grind
def fs_rinit (K : Frag) : F3 := fun a b c H Q E => ∃ (x dx : Addr) (H0 : Hp) (n d : Int), a = .ref x ∧ b = .int n ∧ c = .int d ∧ H = upd (upd H0 dx (.own x)) x (.ins (He.ga K "Ratio") dx []) ∧ H0 x = none ∧ H0 dx = none ∧ dx ≠ x ∧ Bits 8999 d ∧
  (d ≠ 0 → ∀ H', Same H0 H' → IsR K H' x (rt n d) (rb n d) → Q .non H') ∧ (d = 0 → ∀ H', Same H0 H' → E (.ref (He.ga K "ZeroBottom")) none H')
section
variable {K : Frag} {H : Hp} {Q : VK} {E : XK}
/-- Ratio(n, d) -/
theorem z_mkR {n d : Int} (hd : d ≠ 0) (hb : Bits 8999 d) (k : ∀ p H', Same H H' → IsR K H' p (rt n d) (rb n d) → Q (.ref p) H') :
    ∀ x dx, H x = none → H dx = none → dx ≠ x → sp3 (fs_rinit K) [.ref x, .int n, .int d] (upd (upd H dx (.own x)) x (.ins (He.ga K "Ratio") dx [])) (fun v H2 => v = .non ∧ Q (.ref x) H2) E :=
  fun x dx hx hdx ne => ⟨_, _, _, rfl, x, dx, H, n, d, rfl, rfl, rfl, rfl, hx, hdx, ne, hb, fun _ H' e r => ⟨rfl, k x H' e r⟩, fun z => absurd z hd⟩
/-- the two stores -/
theorem run_rinit {D : Ends} {σ : L2.St} {x dx : Addr} {H0 : Hp} {C : Addr} {tv tu : TE} {a b : V} (cl : Cls K C) (n1 : NoAttr K C "top") (n2 : NoAttr K C "bottom") (h0 : H0 x = none) (h1 : H0 dx = none) (ne : dx ≠ x) (s0 : σ[0]? = some (some (.ref x)))
    (e1 : ∀ H1, ∀ Q : VK, Q a H1 → tv σ H1 Q) (e2 : ∀ H1, ∀ Q : VK, Q b H1 → tu σ H1 Q) (k : ∀ H', Same H0 H' → H' x = some (.ins C dx (rF a b)) → D.nx σ H') :
    tSeq (sFld K (tVar 0) tv "top") (sFld K (tVar 0) tu "bottom") D σ (upd (upd H0 dx (.own x)) x (.ins C dx [])) := by
  refine e1 _ _ ⟨_, s0, x, C, dx, _, rfl, upd_same, cl, n1, by decide, ?_⟩
  refine e2 _ _ ⟨_, s0, x, C, dx, _, rfl, upd_same, cl, n2, by show 1 < 1000; decide, ?_⟩
  refine k _ (fun y o hy => ?_) ?_
  · rw [upd_ne (ne_of_none hy h0), upd_ne (ne_of_none hy h0), upd_ne (ne_of_none hy h0), upd_ne (ne_of_none hy h1)]
    exact hy
  · rw [upd_same]
    have e : putF "bottom" b (putF "top" a []) = rF a b := by
      show (if ("top" : Str) = "bottom" then _ else (("top" : Str), a) :: putF "bottom" b []) = _
      rw [if_neg tb_ne]
      rfl
    rw [e]
end
end Z
namespace Z
open PySem PySem.Spec PyProof.Rows L2
end Z
set_option maxHeartbeats 4000000
namespace Z
open PySem PySem.Spec PyProof.Rows L2
section
variable {K : Frag} {σ : L2.St} {H : Hp} {Q : VK} {v : V} {ta tb te : TE} {t : TA} {sp : Sp} {dvs : List V} {W : WX} {C : Addr} {m : Str} {E : XK}
/-- a class is made of these values -/
def zMk (C : Addr) (sp : Sp) (dvs : List V) (E : XK) (vs : List V) (H : Hp) (Q : VK) : Prop := ∀ x dx, H x = none → H dx = none → dx ≠ x → sp (.ref x :: (vs ++ dvs)) (upd (upd H dx (.own x)) x (.ins C dx [])) (fun v H2 => v = .non ∧ Q (.ref x) H2) E
theorem z_mk (q : t σ H fun vs H1 => zMk C sp dvs (fun cls d H' => W cls d σ H') vs H1 Q) : tMakeW C sp dvs W t σ H Q := q
/-- a method of this value -/
def zMt (C : Addr) (m : Str) (x : V) (H : Hp) (R : Prop) : Prop := ∃ a dx fs, x = .ref a ∧ H a = some (.ins C dx fs) ∧ fs.lookup m = none ∧ R
theorem z_mt (q : ta σ H fun x H1 => zMt C m x H1 (t σ H1 fun vs H2 => sp (x :: (vs ++ dvs)) H2 Q (fun cls d H' => W cls d σ H'))) : tMethW C m sp dvs W ta t σ H Q := q
theorem z_mtR {p : Addr} {a b : Int} {R : Prop} (h : IsR K H p a b) (q : R) (h1 : ¬ m = "top" := by decide +kernel) (h2 : ¬ m = "bottom" := by decide +kernel) : zMt (He.ga K "Ratio") m (.ref p) H R := h.elim fun dx hp => ⟨p, dx, _, rfl, hp, rf_no h1 h2, q⟩
theorem z_ownI {i : Int} {u : V → Hp → VK → Prop} (q : u (.int i) H Q) : rOr1 u (rOwn1 C sp E) (.int i) H Q := .inl q
/-- numbers of up to 200 bits -/
theorem bits_of {i : Int} (h1 : -1606938044258990275541962092341162602522202993782792835301376 < i) (h2 : i < 1606938044258990275541962092341162602522202993782792835301376) : Bits 200 i := by
  unfold Bits
  have e : (2 : Nat) ^ 200 = 1606938044258990275541962092341162602522202993782792835301376 := by decide
  omega
theorem bits_up {i : Int} {a b : Nat} (h : Bits a i) (hb : a ≤ b) : Bits b i := Nat.lt_of_lt_of_le h (Nat.pow_le_pow_right (by decide) hb)
theorem z_mulW {i j : Int} (h1 : -1606938044258990275541962092341162602522202993782792835301376 < i) (h2 : i < 1606938044258990275541962092341162602522202993782792835301376) (h3 : -1606938044258990275541962092341162602522202993782792835301376 < j) (h4 : j < 1606938044258990275541962092341162602522202993782792835301376) (q : Q (.int (i * j)) H) : zMul (.int i) (.int j) H Q :=
  z_mulB (bits_of h1 h2) (bits_of h3 h4) (by decide) (by decide) (by decide) q
theorem z_divW {i j : Int} (h : 0 < j) (h2 : j < 1606938044258990275541962092341162602522202993782792835301376) (q : Q (.int (i / j)) H) : zDiv (.int i) (.int j) H Q := z_div h (bits_of (by omega) h2) (by decide) (by decide) q
theorem z_mkR1 {n : Int} (k : ∀ p H', Same H H' → IsR K H' p n 1 → Q (.ref p) H') : zMk (He.ga K "Ratio") (sp3 (fs_rinit K)) [.int 1] E [.int n] H Q :=
  z_mkR (n := n) (d := 1) (by decide) (bits_up (bits_of (by decide) (by decide)) (by decide)) fun p H' s h => k p H' s (by
    obtain ⟨e1, e2⟩ := rt_low (n := n) (d := 1) (by decide) (Int.gcd_one_right ..)
    rw [e1, e2] at h
    exact h)
/-- isinstance of a Ratio -/
theorem z_isR {p : Addr} {a b : Int} {C2 : Addr} {c : Bool} (I : InsK K (He.ga K "Ratio")) (hk : PySem.W.kitOne K (.ref (He.ga K "Ratio")) (.ref C2) = some c) (h : IsR K H p a b) (q : Q (.bl c) H) : rIsi K [.ref p, .ref C2] H Q := by
  obtain ⟨dx, hp⟩ := h
  exact z_isi (.own C2) (I.ty hp) hk q
/-- a for loop over a range -/
def zRng (g : TG) (tb : TS) (D : Ends) (σ : L2.St) (a b : Int) (H : Hp) : Prop := (-(2 ^ 62) ≤ a ∧ a < 2 ^ 62 ∧ -(2 ^ 62) ≤ b ∧ b < 2 ^ 62) ∧ ∃ I : Int → L2.St → Hp → Prop, I a σ H ∧
  (∀ x σ H, a ≤ x → x < b → I x σ H → g (.int x) σ H fun σ2 H2 => tb { D with nx := I (x + 1), ct := I (x + 1), bk := D.nx } σ2 H2) ∧ ∀ x σ H, a ≤ x → b ≤ x → (a ≤ b → x = b) → I x σ H → D.nx σ H
theorem z_rng {g : TG} {tb : TS} {D : Ends} {a b : Int} (h : zRng g tb D σ a b H) {J : It} (hJ : J = Itr a (b - a).toNat) : ∃ W : Nat → Nat → L2.St → Hp → Prop, (∃ m, W 0 m σ H) ∧ ∀ i m σ H, W i m σ H →
    (J.stop i H ∧ D.nx σ H) ∨ (J.go i H ∧ ∃ N : L2.St → Hp → Prop, (∀ σ' H', N σ' H' → ∃ m', m' < m ∧ W (i + 1) m' σ' H') ∧ ∀ x H', J.yld i H x H' → g x σ H' fun σ2 H2 => tb { D with nx := N, ct := N, bk := D.nx } σ2 H2) := by
  subst hJ
  obtain ⟨hs, I, h0, h1, h2⟩ := h
  refine ⟨fun i m σ H => I (a + i) σ H ∧ i + m = (b - a).toNat, ⟨(b - a).toNat, by simpa using h0, by omega⟩, fun i m σ H w => ?_⟩
  obtain ⟨w, e⟩ := w
  by_cases c : i < (b - a).toNat
  · refine .inr ⟨c, I (a + i + 1), fun σ' H' z => ⟨m - 1, by omega, ?_, by omega⟩, ?_⟩
    · have e2 : a + ((i + 1 : Nat) : Int) = a + i + 1 := by omega
      rw [e2]
      exact z
    · rintro x H' ⟨rfl, rfl⟩
      exact h1 _ _ _ (by omega) (by omega) w
  · exact .inl ⟨by show (b - a).toNat ≤ i; omega, h2 _ _ _ (by omega) (by omega) (by omega) w⟩
def zRg (g : TG) (tb : TS) (D : Ends) (σ : L2.St) (vs : List V) (H1 : Hp) : Prop := ∃ i j : Int, vs = [.int i, .int j] ∧ (-(2 ^ 62) ≤ i ∧ i < 2 ^ 62 ∧ -(2 ^ 62) ≤ j ∧ j < 2 ^ 62) ∧ ∃ W : Nat → Nat → L2.St → Hp → Prop, (∃ m, W 0 m σ H1) ∧ ∀ k m σ H, W k m σ H →
    ((Itr i (j - i).toNat).stop k H ∧ D.nx σ H) ∨ ((Itr i (j - i).toNat).go k H ∧ ∃ N : L2.St → Hp → Prop, (∀ σ' H', N σ' H' → ∃ m', m' < m ∧ W (k + 1) m' σ' H') ∧ ∀ x H', (Itr i (j - i).toNat).yld k H x H' → g x σ H' fun σ2 H2 => tb { D with nx := N, ct := N, bk := D.nx } σ2 H2)
theorem z_for2 {g : TG} {tb : TS} {D : Ends} (q : t σ H fun vs H1 => zRg g tb D σ vs H1) : tFor (iRng2 t) g tb D σ H := q
theorem z_rg {g : TG} {tb : TS} {D : Ends} {a b : Int} (h : zRng g tb D σ a b H) : zRg g tb D σ [.int a, .int b] H := ⟨a, b, rfl, h.1, z_rng h rfl⟩
/-- an exception with two fields is made -/
def zMkO (C : Addr) (sp : Sp) (dvs : List V) (vs : List V) (H1 : Hp) (Q : XK) : Prop := vs.length ≤ 1000 ∧ ∀ a, H1 a = none → sp (.ref a :: (vs ++ dvs)) (upd H1 a (exo a C none)) (fun v H2 => v = .non ∧ ∃ (d : Addr) (fs : List (Str × V)), H2 a = some (exo a C (some d)) ∧ H2 d = some (exd d fs) ∧ H1 d = none ∧ Q (.ref C) (some d) (upd (del H2 a) d (.xd fs))) (fun _ _ _ => False)
theorem z_mko {Q : XK} (q : t σ H fun vs H1 => zMkO C sp dvs vs H1 Q) : tMkO C sp dvs t σ H Q := q
theorem z_exo1 {c f : Str} {u : V} {Q : XK} (k : ∀ (d : Addr) (H' : Hp), Same H H' → H' d = some (.xd [(f, u)]) → Q (.ref (He.ga K c)) (some d) H') : zMkO (He.ga K c) (sp2 (fs_ex1 K c f)) [] [u] H Q :=
  ⟨by show 1 ≤ 1000; decide, fun a ha => ⟨_, _, rfl, a, H, rfl, rfl, ha, fun d H' e1 e2 hd s => ⟨rfl, d, _, e1, e2, hd, k d _ s upd_same⟩⟩⟩
end
end Z
namespace Z
open PySem PySem.Spec PyProof.Rows L2
section
variable {K : Frag} {σ : L2.St} {H : Hp} {Q : VK} {ta : TE} {t : TA} {g : TG}
/-- a tuple, a list just made -/
theorem z_newT {xs : List V} (hn : xs.length ≤ 16777216) (k : ∀ p, H p = none → Same H (upd H p (.tup xs)) → upd H p (.tup xs) p = some (.tup xs) → Q (.ref p) (upd H p (.tup xs))) : xs.length ≤ sizeLine ∧ ∀ p, H p = none → Q (.ref p) (upd H p (.tup xs)) :=
  z_new (t := .tup) hn k
theorem z_gn {i : Nat} {v : V} {D : L2.St → Hp → Prop} (q : D (σ.set i (some v)) H) : gName i v σ H D := q
theorem z_gcons {u : TGs} {v : V} {vs : List V} {D : L2.St → Hp → Prop} (q : g v σ H fun σ' H' => u vs σ' H' D) : gCons g u (v :: vs) σ H D := ⟨v, vs, rfl, q⟩
theorem z_gnil {D : L2.St → Hp → Prop} (q : D σ H) : gNil [] σ H D := ⟨rfl, q⟩
/-- a tuple taken apart -/
theorem z_gtup {D : L2.St → Hp → Prop} {p : Addr} {xs : List V} {n : Nat} {ts : TGs} (h : H p = some (.tup xs)) (hl : xs.length = n) (q : ts xs σ H D) : gTup K n ts (.ref p) σ H D := ⟨p, xs, rfl, SqT.of h, hl, q⟩
/-- two ends: a tuple of two tuples -/
def IsE (H : Hp) (e : Addr) (lt lb ht hb : Int) : Prop := ∃ a b, H e = some (.tup [.ref a, .ref b]) ∧ H a = some (.tup [.int lt, .int lb]) ∧ H b = some (.tup [.int ht, .int hb])
theorem IsE.mono {H' : Hp} {e : Addr} {lt lb ht hb : Int} (s : Same H H') (h : IsE H e lt lb ht hb) : IsE H' e lt lb ht hb := by
  obtain ⟨a, b, h1, h2, h3⟩ := h
  exact ⟨a, b, s _ _ h1, s _ _ h2, s _ _ h3⟩
def zNewT (xs : List V) (H : Hp) (Q : VK) : Prop := xs.length ≤ sizeLine ∧ ∀ p, H p = none → Q (.ref p) (upd H p (.tup xs))
def zNewL (xs : List V) (H : Hp) (Q : VK) : Prop := xs.length ≤ sizeLine ∧ ∀ p, H p = none → Q (.ref p) (upd H p (.lst xs))
theorem z_tupN (q : t σ H fun xs H1 => zNewT xs H1 Q) : tTup t σ H Q := q
theorem z_lstN (q : t σ H fun xs H1 => zNewL xs H1 Q) : tLst t σ H Q := q
theorem z_asgG {te : TE} {D : Ends} (q : te σ H fun x H1 => g x σ H1 D.nx) : tAsg te g D σ H := q
/-- the new heap under its own name -/
theorem z_nt {xs : List V} (hn : xs.length ≤ 16777216) (k : ∀ p H', H p = none → Same H H' → H' p = some (.tup xs) → Q (.ref p) H') : zNewT xs H Q :=
  z_newT hn fun p h1 h2 h3 => k p _ h1 h2 h3
end
end Z
set_option maxHeartbeats 4000000
namespace Z
open PySem PySem.Spec PyProof.Rows L2
section
variable {K : Frag} {σ : L2.St} {H : Hp} {Q : VK} {te : TE} {t tk : TA} {sp : Sp} {E : XK}
theorem z_nlR {xs : List V} (hn : xs.length ≤ 16777216) (k : ∀ p H', H p = none → Same H H' → H' p = some (.lst xs) → Q (.ref p) H') : zNewL xs H Q :=
  z_new (t := .lst) hn fun p h1 h2 h3 => k p _ h1 h2 h3
theorem z_p6 (q : Q (.int 1000000) H) : zPow (.int 10) (.int 6) H Q := z_pow ⟨by decide, by decide, by decide⟩ q
theorem z_p12 (q : Q (.int 1000000000000) H) : zPow (.int 10) (.int 12) H Q := z_pow ⟨by decide, by decide, by decide⟩ q
theorem z_p13 (q : Q (.int 10000000000000) H) : zPow (.int 10) (.int 13) H Q := z_pow ⟨by decide, by decide, by decide⟩ q
theorem z_calln {n m : Nat} {gV : List V → List V → List V} (q : t σ H fun vs H1 => tk σ H1 fun zs H2 => vs.length = n ∧ zs.length = m ∧ sp (gV vs zs) H2 Q E) : tCallN n m sp gV E t tk σ H Q := q
/-- a field of the caught exception -/
def zXf (a : Addr) (cls : Value) (d : Option Addr) (C : Addr) (f : Str) (x : V) (H : Hp) (Q : VK) : Prop := x = .ref a ∧ cls = .ref C ∧ ∃ (dd : Addr) (fs : List (Str × V)) (v : V), d = some dd ∧ H dd = some (.xd fs) ∧ fs.lookup f = some v ∧ Q v H
theorem z_xfS {a : Addr} {cls : Value} {d : Option Addr} {C : Addr} {f : Str} (q : te σ H fun x H1 => zXf a cls d C f x H1 Q) : tXf a cls d C f te σ H Q := q
theorem z_xf {a d C : Addr} {f : Str} {fs : List (Str × V)} {v : V} (h : H d = some (.xd fs)) (l : fs.lookup f = some v) (q : Q v H) : zXf a (.ref C) (some d) C f (.ref a) H Q := ⟨rfl, rfl, d, fs, v, rfl, h, l, q⟩
/-- isinstance of the caught exception -/
theorem z_isX {a d D C : Addr} {fs : List (Str × V)} {b : Bool} (h : H d = some (.xd fs)) (hk : PySem.W.kitOne K (.ref D) (.ref C) = some b) (q : Q (.bl b) H) :
    (.ref D : Value) = .ref D ∧ (∀ dd, some d = some dd → ∃ fs, H dd = some (.xd fs)) ∧ rIsX K D a [.ref a, .ref C] H Q :=
  ⟨rfl, fun dd e => by cases e; exact ⟨fs, h⟩, _, _, b, rfl, .own C, hk, q⟩
/-- a caught exception goes into the clause -/
theorem z_as {cls c : Value} {i : Nat} {ts : Addr → Value → Option Addr → TS} {Wout : WX} {D : Ends} {d : Option Addr} (hk : PySem.W.exmOne K cls c = some true)
    (q : ∀ a, H a = none → ts a cls d { nx := fun σ' H' => D.nx (σ'.set i none) H', rt := D.rt, bk := fun σ' H' => D.bk (σ'.set i none) H', ct := fun σ' H' => D.ct (σ'.set i none) H' } (σ.set i (some (.ref a))) H) : wAs K c i ts Wout D cls d σ H :=
  ⟨true, hk, fun _ => q, fun z => nomatch z⟩
end
/-- indexing, the fragment under its own name -/
theorem ix_seqK {X : Cx} {K : Frag} (h : X.K = K) : IxR X (rIx K) := by subst h; exact ix_seq
/-- the law's promise -/
def fs_law (K : Frag) : F1 := fun a H Q _ => ∃ (p : Addr) (ns : List Int), a = .ref p ∧ SqL K H p (ns.map V.int) ∧ ns.length ≤ 63 ∧ ∀ H', Q (.bl true) H'
theorem law_quiet {P : Program} {w : World} {K : Frag} {mg : Str → Option Value} {base : Heap} {j k : Nat} {f : Addr} {fd : FuncData} {ps : List Str} (F : FnOk P w K mg base (L2N.CX P w) j f fd ps (sp1 (fs_law K))) (h : j ≤ k) : FnOk P w K mg base L2.CX0 k f fd ps (sp1 (fs_law K)) :=
  (fn_quiet F fun _ _ _ _ h => h).mono h
theorem cut63 {ns : List Int} (h : ns.length ≤ 63) : cutV (ns.map V.int) none (some 63) = ns.map V.int := by
  have hl : (ns.map V.int).length ≤ 63 := by rw [List.length_map]; exact h
  generalize ns.map V.int = xs at *
  have e : HT.sIx xs.length xs.length (some 63) = xs.length := by
    have q := HT.sIx_nat xs.length xs.length 63
    rw [show ((63 : Nat) : Int) = 63 from rfl] at q
    rw [q]
    omega
  unfold cutV
  rw [e, HT.sIx_none, Nat.sub_zero, List.drop_zero, List.take_length]
end Z
set_option maxHeartbeats 4000000
namespace Z
open PySem PySem.Spec PyProof.Rows L2
section
variable {X : Cx}
/-- o.f as one of several targets -/
def gFld (K : Frag) (ta : TE) (f : Str) : TG := fun v σ H Q => ta σ H fun x H1 => ∃ a C dx fs, x = .ref a ∧ H1 a = some (.ins C dx fs) ∧ Cls K C ∧ NoAttr K C f ∧ fs.length < 1000 ∧ Q σ (upd H1 a (.ins C dx (putF f v fs)))
theorem pg_att {o : Expr} {f : Str} {ta : TE} {pos : Pos} (ha : PE X o ta) : PG X (.Attribute o f pos) (gFld X.K ta f) := by
  refine ⟨fun pins s σ H v u Q I r h => ?_⟩
  refine PySem.W.kas_attr (thn (ha.run pins s σ H _ I h) fun ov s2 ⟨x, H2, I2, rx, a, C, dx, fs, ex, ea, c, n, l, q2⟩ => ?_)
  subst ex
  obtain rfl : ov = Value.ref a := rx
  exact setattr_ok I2 ea c n l r fun s3 I3 => ⟨σ, _, I3, q2⟩
def zCat : R2 := rOr zAdd rCat
def zRep : R2 := rOr zMul rRep
theorem o_cat : OpR X (binaryOp .Add) zCat := op_or2 o_add op_cat
theorem o_rep : OpR X (binaryOp .Mult) zRep := op_or2 o_mul op_rep
end
section
variable {K : Frag} {σ : L2.St} {H : Hp} {Q : VK} {a b : Addr} {xs ys : List V}
theorem lkA {f : Str} {v : V} {r : List (Str × V)} : ((f, v) :: r).lookup f = some v := by rw [lookup_put, if_pos rfl]
theorem lkB {f g : Str} {u v : V} {r : List (Str × V)} (h : ¬ f = g) (l : r.lookup f = some v) : ((g, u) :: r).lookup f = some v := by rw [lookup_put, if_neg h]; exact l
theorem pfA {f : Str} {u v : V} {r : List (Str × V)} : putF f v ((f, u) :: r) = (f, v) :: r := by
  show (if f = f then _ else _) = _
  rw [if_pos rfl]
theorem z_catI {i j : Int} (q : Q (.int (i + j)) H) : zCat (.int i) (.int j) H Q := .inl (z_add q)
theorem z_cat (h1 : H a = some (.lst xs)) (h2 : H b = some (.lst ys)) (hn : xs.length + ys.length ≤ 16777216) (k : ∀ p H', H p = none → Same H H' → H' p = some (.lst (xs ++ ys)) → Q (.ref p) H') : zCat (.ref a) (.ref b) H Q :=
  .inr ⟨a, b, xs, ys, rfl, rfl, h1, h2, by rw [sizeLine_eq]; exact hn, fun p hp => k p _ hp (Same.new hp) upd_same⟩
theorem z_repL {i j : Int} (h1 : -18446744073709551616 < i) (h2 : i < 18446744073709551616) (q : Q (.int (i * j)) H) : zRep (.int i) (.int j) H Q := .inl (z_mulL h1 h2 q)
theorem z_repR {i j : Int} (h1 : -18446744073709551616 < j) (h2 : j < 18446744073709551616) (q : Q (.int (i * j)) H) : zRep (.int i) (.int j) H Q := .inl (z_mulR h1 h2 q)
/-- [x] * n -/
theorem z_rep1 {x : V} {n : Int} (h : H a = some (.lst [x])) (h1 : -9223372036854775808 ≤ n) (h2 : n ≤ 16777216) (k : ∀ p H', H p = none → Same H H' → H' p = some (.lst (List.replicate n.toNat x)) → Q (.ref p) H') : zRep (.ref a) (.int n) H Q := by
  refine .inr ⟨a, n, _, rfl, rfl, h, by omega, by omega, ?_, fun p hp => ?_⟩
  · rw [sizeLine_eq]
    show 1 * n.toNat ≤ 16777216
    omega
  · have e : (List.replicate n.toNat [x]).flatten = List.replicate n.toNat x := by simp
    rw [e]
    exact k p _ hp (Same.new hp) upd_same
/-- len, list(), tuple(), any() of a list -/
theorem z_lenLst (h : H a = some (.lst xs)) (q : Q (.int (xs.length : Int)) H) : rLen1 K [.ref a] H Q := z_lenL (SqL.of h) q
def rList1 (K : Frag) : List V → Hp → VK → Prop := fun vs H Q => ∃ p ys, vs = [.ref p] ∧ (SqL K H p ys ∨ SqT K H p ys) ∧ ∀ l, H l = none → Q (.ref l) (upd H l (.lst ys))
theorem z_listL (h : SqL K H a xs) (k : ∀ p H', H p = none → Same H H' → H' p = some (.lst xs) → Q (.ref p) H') : rList1 K [.ref a] H Q := ⟨a, xs, rfl, .inl h, fun p hp => k p _ hp (Same.new hp) upd_same⟩
theorem z_listT (h : H a = some (.tup xs)) (k : ∀ p H', H p = none → Same H H' → H' p = some (.lst xs) → Q (.ref p) H') : rList1 K [.ref a] H Q := ⟨a, xs, rfl, .inr (SqT.of h), fun p hp => k p _ hp (Same.new hp) upd_same⟩
theorem o_list1 {X : Cx} : CallR X (.type "list") (rList1 X.K) := call_list_of
def rTup1 (K : Frag) : List V → Hp → VK → Prop := fun xs H Q => ∃ p ys, xs = [.ref p] ∧ ((SqL K H p ys ∧ ∀ l, H l = none → Q (.ref l) (upd H l (.tup ys))) ∨ (SqT K H p ys ∧ Q (.ref p) H))
theorem z_allB {bs : List Bool} (h : H a = some (.lst (bs.map V.bl))) (q : Q (.bl (bs.all id)) H) : rAll K [.ref a] H Q := ⟨a, bs, rfl, SqL.of h, q⟩
/-- a slice of a list -/
theorem z_sll {lo hi : Option Int} (h : H a = some (.lst xs)) (k : ∀ p H', H p = none → Same H H' → H' p = some (.lst (cutV xs lo hi)) → Q (.ref p) H') : rSlL K (.ref a) lo hi H Q := ⟨a, xs, rfl, SqL.of h, fun p hp => k p _ hp (Same.new hp) upd_same⟩
theorem z_tsl {r : V → Option Int → Option Int → Hp → VK → Prop} {te : TE} {tl th : TO} (q : te σ H fun x H1 => tl σ H1 fun l H2 => th σ H2 fun u H3 => r x l u H3 Q) : tSl r te tl th σ H Q := q
theorem z_np {QO : Option Int → Hp → Prop} (q : QO none H) : tNoPart σ H QO := q
theorem z_pt {te : TE} {QO : Option Int → Hp → Prop} (q : te σ H fun x H1 => ∃ i, x = .int i ∧ QO (some i) H1) : tPart te σ H QO := q
theorem z_pti {i : Int} {P : Int → Prop} (q : P i) : ∃ j, V.int i = .int j ∧ P j := ⟨i, rfl, q⟩
theorem cut_hi {n : Nat} {xs : List V} : cutV xs none (some (n : Int)) = xs.take n := by
  unfold cutV
  rw [HT.sIx_nat, HT.sIx_none, Nat.sub_zero, List.drop_zero]
  by_cases h : n ≤ xs.length
  · rw [Nat.min_eq_left h]
  · rw [Nat.min_eq_right (by omega), List.take_length, List.take_of_length_le (by omega)]
/-- a place in a list of numbers -/
theorem at_int {ns : List Int} {k : Int} {v : Int} (h0 : 0 ≤ k) (h : ns[k.toNat]? = some v) : atI (ns.map V.int) k = some (.int v) := by
  obtain ⟨n, rfl⟩ := Int.eq_ofNat_of_zero_le h0
  refine atI_nat ?_
  rw [List.getElem?_map]
  have : ns[n]? = some v := h
  rw [this]
  rfl
end
section
variable {K : Frag} {σ : L2.St} {H1 : Hp} {Q : VK} {te : TE} {i j : Nat} {t : TA}
/-- what a comprehension's body is to give: the new list at D within -/
def zLc (J : It) (g : TG) (tt : TT) (te : TE) (vs : List Nat) (σ : L2.St) (H1 : Hp) (Q : VK) : Prop := ∀ D, H1 D = none → ∃ W : Nat → Nat → Hp → Prop, (∃ m, W 0 m (upd H1 D (.lst []))) ∧ ∀ i m H, W i m H →
  (J.stop i H ∧ Q (.ref D) H) ∨ (J.go i H ∧ ∃ Nx : Hp → Prop, (∀ H', Nx H' → ∃ m', m' < m ∧ W (i + 1) m' H') ∧ ∀ x H', J.yld i H x H' → g x (wipe σ vs) H' fun σ2 H2 => wipe σ2 vs = wipe σ vs ∧ tt σ2 H2 fun b H3 =>
    if b = true then te σ2 H3 fun y H4 => ∃ acc, H4 D = some (.lst acc) ∧ acc.length < sizeLine ∧ Nx (upd H4 D (.lst (acc ++ [y]))) else Nx H3)
/-- each turn gives f of its number, all that stood stands -/
theorem z_lcF {J : It} {n : Nat} {G : Hp → Prop} {Y : Nat → Hp → V → Hp → Prop} {g : TG} {vs : List Nat} (w : Walk J n G Y) (f : Nat → V) (hn : n ≤ 16777216) (hG : ∀ H', Same H1 H' → G H')
    (hs : ∀ k x H H' (N : VK), k < n → Same H1 H → Y k H x H' → (∀ H4, Same H H4 → N (f k) H4) → g x (wipe σ vs) H' fun σ2 H2 => wipe σ2 vs = wipe σ vs ∧ te σ2 H2 N)
    (k : ∀ D H', H1 D = none → Same H1 H' → H' D = some (.lst ((List.range n).map f)) → Q (.ref D) H') : zLc J g tYes te vs σ H1 Q := fun D hD => by
  refine lc_it w (fun i H => Same H1 H ∧ H D = some (.lst ((List.range i).map f))) ⟨Same.new hD, upd_same⟩ (fun i H hi p => hG H p.1) (fun i x H H' hi p y => ?_) (fun H p => k D H hD p.1 p.2)
  refine hs i x H H' _ hi p.1 y (fun H4 s4 => ?_)
  refine ⟨_, s4 _ _ p.2, ?_, ?_, ?_⟩
  · rw [List.length_map, List.length_range, sizeLine_eq]
    omega
  · intro b o hb
    rw [upd_ne (ne_of_none hb hD)]
    exact s4 _ _ (p.1 _ _ hb)
  · rw [upd_same, List.range_succ, List.map_append]
    rfl
def zLcL (K : Frag) (g : TG) (tt : TT) (te : TE) (vs : List Nat) (σ : L2.St) (x : V) (H1 : Hp) (Q : VK) : Prop := ∃ a, x = .ref a ∧ (∃ xs, SqL K H1 a xs) ∧ zLc (Itl K a) g tt te vs σ H1 Q
theorem z_lcS {g : TG} {tt : TT} {t : TE} {vs : List Nat} (q : t σ H1 fun x H2 => zLcL K g tt te vs σ x H2 Q) : tLc (iList K t) g tt te vs σ H1 Q := q
/-- over a list of numbers: each number's f -/
theorem z_lcI {a : Addr} {ns : List Int} (f : Int → V) {vs : List Nat} (h : H1 a = some (.lst (ns.map V.int))) (hn : ns.length ≤ 16777216)
    (hs : ∀ n H (N : VK), n ∈ ns → Same H1 H → (∀ H4, Same H H4 → N (f n) H4) → wipe ((wipe σ vs).set i (some (.int n))) vs = wipe σ vs ∧ te ((wipe σ vs).set i (some (.int n))) H N)
    (k : ∀ D H', H1 D = none → Same H1 H' → H' D = some (.lst (ns.map f)) → Q (.ref D) H') : zLcL K (gName i) tYes te vs σ (.ref a) H1 Q := by
  refine ⟨a, rfl, ⟨_, SqL.of h⟩, ?_⟩
  have e : (List.range (ns.map V.int).length).map (fun k => f (ns.getD k 0)) = ns.map f := by
    refine List.ext_getElem (by simp) (fun k h1 h2 => ?_)
    have : k < ns.length := by simpa using h2
    simp [List.getD_eq_getElem?_getD, this]
  refine z_lcF (walk_list (K := K) (a := a) (xs := ns.map V.int)) (fun k => f (ns.getD k 0)) (by simpa using hn) (fun H' s => SqL.of (s _ _ h)) (fun k x H H' N hk s y c => ?_) (fun D H' hD s hl => k D H' hD s (e ▸ hl))
  obtain ⟨rfl, hx⟩ := y
  have hk' : k < ns.length := by simpa using hk
  rw [List.getElem?_map, List.getElem?_eq_getElem hk'] at hx
  have hx' : V.int ns[k] = x := Option.some.inj hx
  subst hx'
  have e2 : ns.getD k 0 = ns[k] := by simp [List.getD_eq_getElem?_getD, hk']
  rw [e2] at c
  exact hs _ H' N (List.getElem_mem hk') s c
/-- over a range -/
def zLcR (g : TG) (tt : TT) (te : TE) (vs : List Nat) (σ : L2.St) (xs : List V) (H1 : Hp) (Q : VK) : Prop := ∃ j : Int, xs = [.int j] ∧ -(2 ^ 62) ≤ j ∧ j < 2 ^ 62 ∧ zLc (Itr 0 j.toNat) g tt te vs σ H1 Q
theorem z_lcRS {g : TG} {tt : TT} {t : TA} {vs : List Nat} (q : t σ H1 fun xs H2 => zLcR g tt te vs σ xs H2 Q) : tLc (iRng1 t) g tt te vs σ H1 Q := q
theorem z_lcR {n : Int} (f : Nat → V) {vs : List Nat} (h1 : -4611686018427387904 ≤ n) (h2 : n ≤ 16777216)
    (hs : ∀ (k : Nat) H (N : VK), k < n.toNat → Same H1 H → (∀ H4, Same H H4 → N (f k) H4) → wipe ((wipe σ vs).set i (some (.int k))) vs = wipe σ vs ∧ te ((wipe σ vs).set i (some (.int k))) H N)
    (k : ∀ D H', H1 D = none → Same H1 H' → H' D = some (.lst ((List.range n.toNat).map f)) → Q (.ref D) H') : zLcR (gName i) tYes te vs σ [.int n] H1 Q := by
  refine ⟨n, rfl, by omega, by omega, ?_⟩
  refine z_lcF (walk_range (lo := 0) (n := n.toNat)) f (by omega) (fun _ _ => trivial) (fun k x H H' N hk s y c => ?_) k
  obtain ⟨rfl, rfl⟩ := y
  have e : (0 : Int) + (k : Int) = k := Int.zero_add _
  dsimp only
  rw [e]
  exact hs k H' N hk s c
/-- over two lists of numbers at once -/
def zLcZ (K : Frag) (g : TG) (tt : TT) (te : TE) (vs : List Nat) (σ : L2.St) (xs : List V) (H1 : Hp) (Q : VK) : Prop := ∃ a b ys zs, xs = [.ref a, .ref b] ∧ SqL K H1 a ys ∧ SqL K H1 b zs ∧ zLc (Itz K a b) g tt te vs σ H1 Q
theorem z_lcZS {g : TG} {tt : TT} {t : TA} {vs : List Nat} (q : t σ H1 fun xs H2 => zLcZ K g tt te vs σ xs H2 Q) : tLc (iZip K t) g tt te vs σ H1 Q := q
/-- a loop over a list of numbers: I by the turn -/
def zFoL (K : Frag) (g : TG) (tb : TS) (D : Ends) (σ : L2.St) (x : V) (H1 : Hp) : Prop := ∃ a, x = .ref a ∧ (∃ xs, SqL K H1 a xs) ∧ ∃ W : Nat → Nat → L2.St → Hp → Prop, (∃ m, W 0 m σ H1) ∧ ∀ k m σ H, W k m σ H →
    ((Itl K a).stop k H ∧ D.nx σ H) ∨ ((Itl K a).go k H ∧ ∃ N : L2.St → Hp → Prop, (∀ σ' H', N σ' H' → ∃ m', m' < m ∧ W (k + 1) m' σ' H') ∧ ∀ x H', (Itl K a).yld k H x H' → g x σ H' fun σ2 H2 => tb { D with nx := N, ct := N, bk := D.nx } σ2 H2)
theorem z_foS {g : TG} {tb : TS} {D : Ends} {t : TE} (q : t σ H1 fun x H2 => zFoL K g tb D σ x H2) : tFor (iList K t) g tb D σ H1 := q
theorem z_foV {g : TG} {tb : TS} {D : Ends} {a : Addr} {xs : List V} (h : H1 a = some (.lst xs)) (I : Nat → L2.St → Hp → Prop) (h0 : I 0 σ H1) (hl : ∀ k σ H, I k σ H → H a = some (.lst xs))
    (hs : ∀ k x σ H, xs[k]? = some x → I k σ H → g x σ H fun σ2 H2 => tb { D with nx := I (k + 1), ct := I (k + 1), bk := D.nx } σ2 H2) (hd : ∀ σ H, I xs.length σ H → D.nx σ H) : zFoL K g tb D σ (.ref a) H1 :=
  ⟨a, rfl, ⟨_, SqL.of h⟩, for_it (walk_list (K := K) (a := a) (xs := xs)) I h0 (fun k σ H _ p => SqL.of (hl k σ H p)) (fun k x σ H H' _ p y => by
    obtain ⟨rfl, hx⟩ := y
    exact hs k x σ H' hx p) hd⟩
/-- a loop over range(n): I by the turn -/
def zFoR (g : TG) (tb : TS) (D : Ends) (σ : L2.St) (vs : List V) (H1 : Hp) : Prop := ∃ j : Int, vs = [.int j] ∧ -(2 ^ 62) ≤ j ∧ j < 2 ^ 62 ∧ ∃ W : Nat → Nat → L2.St → Hp → Prop, (∃ m, W 0 m σ H1) ∧ ∀ k m σ H, W k m σ H →
    ((Itr 0 j.toNat).stop k H ∧ D.nx σ H) ∨ ((Itr 0 j.toNat).go k H ∧ ∃ N : L2.St → Hp → Prop, (∀ σ' H', N σ' H' → ∃ m', m' < m ∧ W (k + 1) m' σ' H') ∧ ∀ x H', (Itr 0 j.toNat).yld k H x H' → g x σ H' fun σ2 H2 => tb { D with nx := N, ct := N, bk := D.nx } σ2 H2)
theorem z_for1 {g : TG} {tb : TS} {D : Ends} (q : t σ H1 fun vs H2 => zFoR g tb D σ vs H2) : tFor (iRng1 t) g tb D σ H1 := q
theorem z_foR {g : TG} {tb : TS} {D : Ends} {n : Int} (h1 : -4611686018427387904 ≤ n) (h2 : n < 4611686018427387904) (I : Nat → L2.St → Hp → Prop) (h0 : I 0 σ H1)
    (hs : ∀ (k : Nat) σ H, k < n.toNat → I k σ H → g (.int k) σ H fun σ2 H2 => tb { D with nx := I (k + 1), ct := I (k + 1), bk := D.nx } σ2 H2) (hd : ∀ σ H, I n.toNat σ H → D.nx σ H) : zFoR g tb D σ [.int n] H1 :=
  ⟨n, rfl, by omega, by omega, for_it (walk_range (lo := 0) (n := n.toNat)) I h0 (fun _ _ _ _ _ => trivial) (fun k x σ H H' hk p y => by
    obtain ⟨rfl, rfl⟩ := y
    have e : (0 : Int) + (k : Int) = k := Int.zero_add _
    dsimp only
    rw [e]
    exact hs k σ H' hk p) hd⟩
end
section
variable {X : Cx} {K : Frag} {f : Value}
theorem callK (r : Frag → List V → Hp → VK → Prop) (h : X.K = K) (c : CallR X f (r X.K)) : CallR X f (r K) := by subst h; exact c
theorem slK (r : Frag → V → Option Int → Option Int → Hp → VK → Prop) (h : X.K = K) (c : SlR X (r X.K)) : SlR X (r K) := by subst h; exact c
theorem pe_fldK {e : Expr} {ta : TE} {x : Str} {pos : Pos} (h : X.K = K) (he : PE X e ta) (hb : attributeBase e x X.env (eval e X.env) = eval e X.env) : PE X (.Attribute e x pos) (tFld K ta x) := by subst h; exact pe_fld he hb
theorem pi_listK {tg l : Expr} {tl : TE} (h : X.K = K) (hl : PE X l tl) : PI X tg l (iList K tl) := by subst h; exact pi_list hl
theorem pi_tupK {tg l : Expr} {tl : TE} (h : X.K = K) (hl : PE X l tl) : PI X tg l (iTup K tl) := by subst h; exact pi_tup hl
theorem pg_attK {o : Expr} {x : Str} {ta : TE} {pos : Pos} (h : X.K = K) (ha : PE X o ta) : PG X (.Attribute o x pos) (gFld K ta x) := by subst h; exact pg_att ha
theorem piK {tg e : Expr} (w : Frag → TI) (h : X.K = K) (c : PI X tg e (w X.K)) : PI X tg e (w K) := by subst h; exact c
end
end Z
namespace Z
open PySem PySem.Spec PyProof.Rows L2
section
variable {K : Frag} {σ : L2.St} {H H' H1 : Hp} {Q : VK} {a p : Addr} {o : HO}
theorem z_isNI {i : Int} (q : Q (.bl false) H) : zIsN (.int i) .non H Q := z_isN (by simpa using q)
theorem z_isNN (q : Q (.bl true) H) : zIsN .non .non H Q := z_isN (by simpa using q)
theorem z_isNb (q : Q (.bl false) H) : zIsN (.ref a) .non H Q := z_isN (by simpa using q)
theorem z_notNI {i : Int} (q : Q (.bl true) H) : zNotN (.int i) .non H Q := z_notN (by simpa using q)
theorem z_notNN (q : Q (.bl false) H) : zNotN .non .non H Q := z_notN (by simpa using q)
theorem z_notNb (q : Q (.bl true) H) : zNotN (.ref a) .non H Q := z_notN (by simpa using q)
/-- o[i] = v -/
theorem z_gsub {to ti : TE} {t : TSet} {v : V} {D : L2.St → Hp → Prop} (q : to σ H fun o H1 => ti σ H1 fun i H2 => t o i v H2 fun H3 => D σ H3) : gSub to ti t v σ H D := q
theorem z_setL {xs : List V} {k : Int} {v : V} {j : Nat} {R : Hp → Prop} (h : H p = some (.lst xs)) (hj : (j : Int) = k) (hl : j < xs.length) (q : R (upd H p (.lst (xs.set j v)))) : rSetL (.ref p) (.int k) v H R := by
  subst hj
  refine ⟨p, xs, _, j, rfl, rfl, h, ?_, q⟩
  unfold ixN
  simp
  omega
/-- all stands but what lies at p -/
def But (p : Addr) (H H' : Hp) : Prop := ∀ a o, a ≠ p → H a = some o → H' a = some o
theorem But.at (e : But p H H') (ne : a ≠ p) (h : H a = some o) : H' a = some o := e a o ne h
theorem But.of (e : Same H H') : But p H H' := fun a o _ h => e a o h
theorem But.trans (e : But p H H1) (f : But p H1 H') : But p H H' := fun a o ne h => f a o ne (e a o ne h)
theorem But.set : But p H (upd H p o) := fun a _ ne h => by rw [upd_ne ne]; exact h
/-- a list of numbers -/
def IsPool (H : Hp) (p : Addr) : Prop := ∃ ns : List Int, H p = some (.lst (ns.map V.int))
theorem IsPool.mono (e : Same H H') (h : IsPool H p) : IsPool H' p := h.elim fun ns q => ⟨ns, e _ _ q⟩
theorem set_int {ns : List Int} {j : Nat} {v : Int} : (ns.map V.int).set j (.int v) = (ns.set j v).map V.int := (List.map_set).symm
end
end Z
namespace Z
open PySem PySem.Spec PyProof.Rows L2
theorem z_tup1L {K : Frag} {H : Hp} {Q : VK} {a : Addr} {xs : List V} (h : H a = some (.lst xs)) (k : ∀ p H', H p = none → Same H H' → H' p = some (.tup xs) → Q (.ref p) H') : rTup1 K [.ref a] H Q :=
  ⟨a, xs, rfl, .inl ⟨SqL.of h, fun p hp => k p _ hp (Same.new hp) upd_same⟩⟩
end Z
namespace Z
open PySem PySem.Spec PyProof.Rows L2
section
variable {K : Frag} {σ : L2.St} {H : Hp} {Q : VK} {p C dx : Addr} {fs : List (Str × V)} {i : Nat} {f : Str} {v : V} {D : L2.St → Hp → Prop}
theorem z_gfld (c : Cls K C) (n : NoAttr K C f) (hs : σ[i]? = some (some (.ref p))) (h : H p = some (.ins C dx fs)) (hl : fs.length < 1000) (q : D σ (upd H p (.ins C dx (putF f v fs)))) : gFld K (tVar i) f v σ H D := ⟨_, hs, p, C, dx, fs, rfl, h, c, n, hl, q⟩
def zSfl (K : Frag) (i : Nat) (f : Str) (E : Ends) (σ : L2.St) (y : V) (H1 : Hp) : Prop := tVar i σ H1 fun x H2 => ∃ a C dx fs, x = .ref a ∧ H2 a = some (.ins C dx fs) ∧ Cls K C ∧ NoAttr K C f ∧ fs.length < 1000 ∧ E.nx σ (upd H2 a (.ins C dx (putF f y fs)))
theorem z_sfl {tv : TE} {E : Ends} (q : tv σ H fun y H1 => zSfl K i f E σ y H1) : sFld K (tVar i) tv f E σ H := q
theorem z_sflp {E : Ends} (c : Cls K C) (n : NoAttr K C f) (hs : σ[i]? = some (some (.ref p))) (h : H p = some (.ins C dx fs)) (hl : fs.length < 1000) (q : E.nx σ (upd H p (.ins C dx (putF f v fs)))) : zSfl K i f E σ v H := ⟨_, hs, p, C, dx, fs, rfl, h, c, n, hl, q⟩
theorem z_fldG (c : Cls K C) (n : NoAttr K C f) (hs : σ[i]? = some (some (.ref p))) (h : H p = some (.ins C dx fs)) (l : fs.lookup f = some v) (q : Q v H) : tFld K (tVar i) f σ H Q := ⟨_, hs, p, C, dx, fs, v, rfl, h, c, n, l, q⟩
theorem pfB {g : Str} {u : V} {r : List (Str × V)} (h : ¬ g = f) : putF f v ((g, u) :: r) = (g, u) :: putF f v r := by
  show (if g = f then _ else _) = _
  rw [if_neg h]
theorem pfN : putF f v [] = [(f, v)] := rfl
/-- a store at a new object keeps all that was there before it -/
theorem Same.put {H0 H1 : Hp} {o : HO} (s : Same H0 H1) (h : H0 p = none) : Same H0 (upd H1 p o) := fun b u hb => by
  rw [upd_ne (ne_of_none hb h)]
  exact s b u hb
end
end Z
namespace Z
open PySem PySem.Spec PyProof.Rows L2
section
variable {K : Frag} {H H' : Hp} {Q : VK} {p a : Addr} {xs : List V}
theorem IsPool.of {ns : List Int} (h : H p = some (.lst (ns.map V.int))) : IsPool H p := ⟨ns, h⟩
/-- min of a list: is it zero -/
theorem z_ixC {ns : List Int} {k : Int} (h : H a = some (.lst (ns.map V.int))) (h0 : 0 ≤ k) (h1 : k < ns.length) (q : Q (.int (ns.getD k.toNat 0)) H) : rIx K (.ref a) (.int k) H Q :=
  z_ixL (SqL.of h) (at_int h0 (by rw [List.getD_eq_getElem?_getD, List.getElem?_eq_getElem (by omega)]; rfl)) q
end
end Z
namespace Z
open PySem PySem.Spec PyProof.Rows L2
theorem Same.none {H H' : Hp} {a : Addr} (s : Same H H') (h : H' a = Option.none) : H a = Option.none := by
  cases e : H a with
  | none => rfl
  | some o =>
    rw [s _ _ e] at h
    cases h
end Z
set_option maxHeartbeats 4000000
namespace Z
open PySem PySem.Spec PyProof.Rows L2
end Z
set_option maxHeartbeats 4000000
namespace Z
open PySem PySem.Spec PyProof.Rows L2
section
variable {X : Cx} {K : Frag}
/-- the numbers' sizes that lcm takes -/
def rLcm : List V → Hp → VK → Prop := fun vs H Q => ∃ a b : Int, vs = [.int a, .int b] ∧ a.natAbs < 2 ^ 6000 ∧ b.natAbs < 2 ^ 6000 ∧ Q (.int ((Nat.lcm a.natAbs b.natAbs : Nat) : Int)) H
theorem cr_lcm : CallR X (.builtin "math.lcm") rLcm := by
  intro pins s σ H vs us Q I r h
  obtain ⟨a, b, rfl, ha, hb, q⟩ := h
  obtain ⟨t, u, rfl⟩ := Vals.int2 r
  have h1 : (max 1 a.natAbs).log2 ≤ 5999 := PySem.W.mg_log (Nat.max_lt.mpr ⟨Nat.one_lt_two_pow (by decide), ha⟩)
  have h2 : (max a.natAbs b.natAbs).log2 ≤ 5999 := PySem.W.mg_log (Nat.max_lt.mpr ⟨ha, hb⟩)
  have e : Nat.lcm 1 a.natAbs = a.natAbs := Nat.lcm_one_left _
  have g := PySem.W.mg_run_lcm a t b u (by omega) (by omega) (by
    rw [e, Int.natAbs_natCast]
    have l1 : Nat.lcm a.natAbs b.natAbs ≤ a.natAbs * b.natAbs := Nat.div_le_self _ _
    have l2 : a.natAbs * b.natAbs < 2 ^ 12000 := by
      have : (2 : Nat) ^ 12000 = 2 ^ 6000 * 2 ^ 6000 := by rw [← Nat.pow_add]
      rw [this]
      exact Nat.mul_lt_mul'' ha hb
    have := PySem.W.mg_log (n := Nat.lcm a.natAbs b.natAbs) (k := 11999) (Nat.lt_of_le_of_lt l1 l2)
    unfold bitsLine
    omega)
  rw [e] at g
  exact call_function_meets PySem.W.MGF.kind_lcm PySem.W.MGF.plain_lcm PySem.W.MGF.entry_lcm (PySem.W.MGF.args_lcm _ _) g.meets ⟨.int _, H, I.tok _, ⟨_, rfl⟩, q⟩
end
end Z
set_option maxHeartbeats 4000000
namespace Z
open PySem PySem.Spec PyProof.Rows L2
/-- a list (false) or a tuple (true) -/
def SqK (K : Frag) (k : Bool) (H : Hp) (a : Addr) (xs : List V) : Prop := match k with
  | true => SqT K H a xs
  | false => SqL K H a xs
theorem SqK.T {K : Frag} {H : Hp} {a : Addr} {xs : List V} (h : H a = some (.tup xs)) : SqK K true H a xs := SqT.of h
def ItK (k : Bool) (h : Heap) (it a : Addr) (i : Nat) : Prop := match k with
  | true => h.IsTupleIter it a i
  | false => h.IsListIter it a i
def HasK (k : Bool) (h : Heap) (a : Addr) (its : Array Value) : Prop := match k with
  | true => h.IsTuple a its
  | false => h.IsList a its
def obK (k : Bool) (a : Addr) : Obj := match k with
  | true => { cls := .type "tuple_iterator", data := .fields #[.ref a, .int 0 0] }
  | false => { cls := .type "list_iterator", data := .fields #[.ref a, .int 0 0] }
theorem begK (k : Bool) (a : Addr) (its : Array Value) : Begins (.ref a) (obK k a) fun h => HasK k h a its := by
  cases k
  · exact begins_list a its
  · exact begins_tuple a its
theorem itK0 {k : Bool} {h : Heap} {it a : Addr} (e : h.get? it = some (obK k a)) : ItK k h it a 0 := by
  cases k
  · exact ⟨_, e, rfl, rfl⟩
  · exact ⟨_, e, rfl, rfl⟩
theorem ItK.lt {k : Bool} {h : Heap} {it a : Addr} {i : Nat} (e : ItK k h it a i) : it < h.objs.size := by
  cases k
  · obtain ⟨o, q, _⟩ := e
    exact Heap.lt_size q
  · obtain ⟨o, q, _⟩ := e
    exact Heap.lt_size q
theorem ItK.obj {k : Bool} {h : Heap} {it a : Addr} {i : Nat} (e : ItK k h it a i) : ∃ o, h.get? it = some o ∧ ∀ v, o.data ≠ .cell v := by
  cases k
  · obtain ⟨o, q, _, d⟩ := e
    exact ⟨o, q, fun v z => by rw [d] at z; cases z⟩
  · obtain ⟨o, q, _, d⟩ := e
    exact ⟨o, q, fun v z => by rw [d] at z; cases z⟩
theorem ItK.keep {k : Bool} {h h' : Heap} {it a : Addr} {i : Nat} (e : ItK k h it a i) (kp : ∀ o, h.get? it = some o → h'.get? it = some o) : ItK k h' it a i := by
  cases k
  · exact e.at kp
  · exact e.at kp
theorem drwK {P : Program} {w : World} {A : Around} (k : Bool) (hh : A.handled = none) (it a : Addr) (hne : a ≠ it) (its : Array Value) :
    Draws P w A it [it, a] its.size (fun i v => its[i]? = some v) (fun i h => ItK k h it a i ∧ HasK k h a its) := by
  cases k
  · exact Draws.list hh it a hne its
  · exact Draws.tuple hh it a hne its
section
variable {X : Cx} {pins : List (Addr × Obj)} {σ : L2.St} {H : Hp} {s : Shared} {a : Addr} {xs : List V}
theorem inv_seqK {k : Bool} (I : Inv X pins σ H s) (h : SqK X.K k H a xs) : ∃ its : List Value, Vals xs its ∧ HasK k s.heap a its.toArray ∧ a < s.heap.objs.size := by
  cases k
  · obtain ⟨its, r, p, _⟩ := I.list h
    exact ⟨its, r, p.isList, p.lt⟩
  · obtain ⟨its, r, p, _⟩ := I.tuple h
    obtain ⟨o, ho, _⟩ := id p
    exact ⟨its, r, p, Heap.lt_size ho⟩
/-- one turn of an iterator that gives tuples -/
theorem turn_core {z : Addr} {fpW wr fp : List Addr} {n : Nat} {Pt : Nat → Array Value → Prop} {Sg : Nat → Heap → Prop} {Mid : Nat → Addr → Heap → Prop} {VS : List V → Prop} {i : Nat} {E : Value → Shared → Prop} {elts : List Expr} {kk : Nat} {tpos : Pos}
    (W : WalksT X.prog X.w X.A z fpW wr n Pt Sg Mid) (I : Inv X pins σ H s) (hf : ∀ b ∈ fp, FpOk X pins H b) (hlt : ∀ b ∈ fp, b < s.heap.objs.size) (hw : ∀ b ∈ wr, b ∈ fp) (hi : i < n) (st : Sg i s.heap)
    (hP : ∀ vals, Pt i vals → ∃ vs : List V, Vals vs vals.toList ∧ VS vs ∧ vs.length ≤ sizeLine) :
    wpAny (model X.prog X.w) X.A (pyNext (.ref z)) (fun r s1 => ∃ u, r = some u ∧
      wpAny (model X.prog X.w) X.A (letOwnedTupleGo (.Tuple elts kk tpos) (.ref z) u) (fun _ s2 => ∃ x H', Inv X pins σ H' s2 ∧ RelV x u ∧ (∃ T vs, x = .ref T ∧ H T = none ∧ H' = upd H T (.tup vs) ∧ VS vs) ∧ Sg (i + 1) s2.heap ∧ ∀ b ∈ fp, H' b = none) E s1) E s := by
  refine W.item i s _ _ hi st fun T vals h' tk p hT it mid kp => ⟨_, rfl, W.go elts kk tpos i T _ _ _ mid fun h'' st' kp' => ?_⟩
  obtain ⟨vs, rv, v, hz⟩ := hP vals p
  have kept : ∀ b o, b ∉ wr → s.heap.get? b = some o → h''.get? b = some o := fun b o nb e => kp' b o nb (kp b o nb e)
  have nT : T ∉ wr := W.apart i T h' mid
  obtain ⟨ot, e1, e2, m, e3⟩ := it
  have hf' : ∀ b ∈ wr, FpOk X pins H b := fun b hb => hf b (hw b hb)
  have new : ObjOk X.prog X.w (upd H T (.tup vs)) h'' T (.tup vs) := ⟨hz, vals.toList, rv, ⟨ot, kp' T ot nT e1, e2, m, by simpa using e3⟩⟩
  refine ⟨.ref T, _, I.turnedNew (ch := wr) kept hf' hT new, rfl, ⟨T, vs, rfl, I.hok.fresh hT, rfl, v⟩, st', fun b hb => ?_⟩
  have ne : b ≠ T := Nat.ne_of_lt (Nat.lt_of_lt_of_le (hlt b hb) hT)
  rw [upd_ne ne]
  exact (hf b hb).1
theorem end_core {z : Addr} {fpW wr fp : List Addr} {n : Nat} {Pt : Nat → Array Value → Prop} {Sg : Nat → Heap → Prop} {Mid : Nat → Addr → Heap → Prop} {E : Value → Shared → Prop}
    (W : WalksT X.prog X.w X.A z fpW wr n Pt Sg Mid) (I : Inv X pins σ H s) (hf : ∀ b ∈ fp, FpOk X pins H b) (hw : ∀ b ∈ wr, b ∈ fp) (st : Sg n s.heap) :
    wpAny (model X.prog X.w) X.A (pyNext (.ref z)) (fun r s1 => r = none ∧ Inv X pins σ H s1) E s :=
  W.done s _ _ st fun h' tk kp => ⟨rfl, I.turnedL (ch := wr) (fun b o hb e => kp b o hb e) fun b hb => hf b (hw b hb)⟩
end
def ItZ (K : Frag) (k1 k2 : Bool) (a b : Addr) (xs ys : List V) : It :=
  ⟨fun i H => SqK K k1 H a xs ∧ SqK K k2 H b ys ∧ i < min xs.length ys.length,
    fun i H v H' => ∃ T x y, v = .ref T ∧ H T = none ∧ H' = upd H T (.tup [x, y]) ∧ xs[i]? = some x ∧ ys[i]? = some y,
    fun i H => SqK K k1 H a xs ∧ SqK K k2 H b ys ∧ i = min xs.length ys.length⟩
theorem vals_at {xs : List V} {its : List Value} (r : Vals xs its) {i : Nat} {u : Value} (h : its.toArray[i]? = some u) : ∃ x, xs[i]? = some x ∧ RelV x u := by
  have hi : i < its.length := by
    by_cases c : i < its.length
    · exact c
    · rw [Array.getElem?_eq_none (by simpa using c)] at h
      cases h
  have hl := r.length
  have hx : xs[i]? = some (xs[i]'(by omega)) := List.getElem?_eq_getElem _
  obtain ⟨u2, e2, ru⟩ := r.get hx
  have : its.toArray[i]? = some u2 := by simpa using e2
  rw [h] at this
  cases this
  exact ⟨_, hx, ru⟩
def tnZ (k1 k2 : Bool) (a b z TI TO i1 i2 : Addr) (i : Nat) (h : Heap) : Prop := IsZip h z TI TO .none ∧ IsTupOf2 h TI (.ref i1) (.ref i2) ∧ (∃ u v, IsTupOf2 h TO u v) ∧ ItK k1 h i1 a i ∧ ItK k2 h i2 b i
theorem turn_zipM {P : Program} {w : World} {K : Frag} {elts : List Expr} {kk : Nat} {tpos : Pos} {k1 k2 : Bool} {a b z TI TO i1 i2 : Addr} {xs ys : List V} (S : ZipSep2 z TI TO i1 i2 [i1, a] [i2, b]) (ha : a ≠ i1) (hb : b ≠ i2) :
    Turn P w K (.Tuple elts kk tpos) (ItZ K k1 k2 a b xs ys) [z, TI, TO, i1, i2] z (tnZ k1 k2 a b z TI TO i1 i2) where
  mem := by simp
  obj := fun i h st c hc => by
    obtain ⟨hz, hTI, ⟨x, y, hTO⟩, h1, h2⟩ := st
    have e' : c = z ∨ c = TI ∨ c = TO ∨ c = i1 ∨ c = i2 := by simpa using hc
    rcases e' with rfl | rfl | rfl | rfl | rfl
    · exact ⟨_, hz, fun v q => nomatch q⟩
    · exact ⟨_, hTI, fun v q => nomatch q⟩
    · exact ⟨_, hTO, fun v q => nomatch q⟩
    · exact h1.obj
    · exact h2.obj
  keep := fun i h h' st k => by
    obtain ⟨hz, hTI, ⟨x, y, hTO⟩, h1, h2⟩ := st
    exact ⟨k z (by simp) _ hz, k TI (by simp) _ hTI, ⟨x, y, k TO (by simp) _ hTO⟩, h1.keep (k i1 (by simp)), h2.keep (k i2 (by simp))⟩
  item := by
    intro X hP hw hK hc i pins s σ H E I hf st hg
    subst hP hw hK
    obtain ⟨qx, qy, hi⟩ := hg
    obtain ⟨its, rv, p1, la⟩ := inv_seqK I qx
    obtain ⟨its2, rv2, p2, lb⟩ := inv_seqK I qy
    obtain ⟨hz, hTI, ⟨x, y, hTO⟩, h1, h2⟩ := st
    have hh : X.A.in1.handled = none := I.ok.hd hc
    have l1 := rv.length
    have l2 := rv2.length
    have W := WalksT.zipD2 S (drwK (P := X.prog) (w := X.w) k1 hh i1 a ha its.toArray) (drwK (P := X.prog) (w := X.w) k2 hh i2 b hb its2.toArray)
    refine wpAny_mono (turn_core (elts := elts) (kk := kk) (tpos := tpos) (fp := [z, TI, TO, i1, i2]) (VS := fun vs => ∃ u v, vs = [u, v] ∧ xs[i]? = some u ∧ ys[i]? = some v) W I hf ?_ (by simp) (i := i) (by simp; omega) ⟨hz, hTI, ⟨x, y, hTO⟩, ⟨h1, p1⟩, ⟨h2, p2⟩⟩ ?_) ?_ (fun _ _ e => e)
    · intro c hcm
      have e' : c = z ∨ c = TI ∨ c = TO ∨ c = i1 ∨ c = i2 := by simpa using hcm
      rcases e' with rfl | rfl | rfl | rfl | rfl
      · exact Heap.lt_size hz
      · exact Heap.lt_size hTI
      · exact Heap.lt_size hTO
      · exact h1.lt
      · exact h2.lt
    · rintro vals ⟨u, v, hu, hv, rfl⟩
      obtain ⟨x', ex, rx⟩ := vals_at rv hu
      obtain ⟨y', ey, ry⟩ := vals_at rv2 hv
      exact ⟨[x', y'], .cons rx (.cons ry .nil), ⟨_, _, rfl, ex, ey⟩, by show 2 ≤ sizeLine; decide⟩
    · rintro r s1 ⟨u, rfl, q⟩
      refine ⟨u, rfl, wpAny_mono q (fun _ s2 z2 => ?_) (fun _ _ e => e)⟩
      obtain ⟨x2, H', I2, r2, ⟨T, vs, e1, e2, e3, u3, v3, e4, e5, e6⟩, ⟨t1, t2, t3, ⟨t4, _⟩, ⟨t5, _⟩⟩, fr⟩ := z2
      subst e4
      exact ⟨x2, H', I2, r2, ⟨T, u3, v3, e1, e2, e3, e5, e6⟩, ⟨t1, t2, t3, t4, t5⟩, fr⟩
  done := by
    intro X hP hw hK hc i pins s σ H E I hf st hg
    subst hP hw hK
    obtain ⟨qx, qy, hi⟩ := hg
    obtain ⟨its, rv, p1, la⟩ := inv_seqK I qx
    obtain ⟨its2, rv2, p2, lb⟩ := inv_seqK I qy
    obtain ⟨hz, hTI, ⟨x, y, hTO⟩, h1, h2⟩ := st
    have hh : X.A.in1.handled = none := I.ok.hd hc
    have l1 := rv.length
    have l2 := rv2.length
    have W := WalksT.zipD2 S (drwK (P := X.prog) (w := X.w) k1 hh i1 a ha its.toArray) (drwK (P := X.prog) (w := X.w) k2 hh i2 b hb its2.toArray)
    have e : min its.toArray.size its2.toArray.size = i := by simp; omega
    rw [e] at W
    exact end_core (fp := [z, TI, TO, i1, i2]) W I hf (by simp) ⟨hz, hTI, ⟨x, y, hTO⟩, ⟨h1, p1⟩, ⟨h2, p2⟩⟩
  self := fun A i s Q E st h => wpAny_pyIter_zip st.1 h
def iZipM (K : Frag) (ta : TA) : TI := fun σ H R => ta σ H fun vs H1 => ∃ (k1 k2 : Bool) (a b : Addr) (xs ys : List V), vs = [.ref a, .ref b] ∧ SqK K k1 H1 a xs ∧ SqK K k2 H1 b ys ∧ R (ItZ K k1 k2 a b xs ys) H1
theorem vals2 {a b : Addr} {us : List Value} (r : Vals [V.ref a, V.ref b] us) : us = [Value.ref a, Value.ref b] := by
  cases r with
  | cons r1 r =>
    cases r with
    | cons r2 r =>
      cases r
      cases r1
      cases r2
      rfl
theorem vals1r {a : Addr} {us : List Value} (r : Vals [V.ref a] us) : us = [Value.ref a] := by
  cases r with
  | cons r1 r =>
    cases r
    cases r1
    rfl
theorem pi_zipM {X : Cx} {e e2 : Expr} {ta : TA} {p pos tpos : Pos} {elts : List Expr} {kk : Nat} (hg : Gl X "zip") (hm : X.mg "zip" = none) (ha : PA X [e, e2] ta)
    (hs : starEach [e, e2] X.env = (false, eval e X.env) :: starEach [e2] X.env := by rfl) (hpl : (backTo pos (starEach [e2] X.env)).any (·.1) = false := by rfl) :
    PI X (.Tuple elts kk tpos) (.Call (.Name "zip" p) [e, e2] [] pos) (iZipM X.K ta) := by
  refine ⟨fun pins s σ H R I h => ?_⟩
  refine Call_ (ld_blt I hg hm PyProof.Rows.boot_zip (PyProof.Rows.callWith_type1 (thn (ha.run pos pins s σ H _ I h) fun us s1 ⟨vs, H1, I1, r1, q1⟩ => ?_) hs hpl))
  obtain ⟨k1, k2, a, b, xs, ys, ex, qx, qy, q⟩ := q1
  subst ex
  obtain rfl := vals2 r1
  obtain ⟨its, rv, p1, la⟩ := inv_seqK I1 qx
  obtain ⟨its2, rv2, p2, lb⟩ := inv_seqK I1 qy
  refine zip_begins2 (begK k1 a its.toArray) (begK k2 b its2.toArray) p1 p2 fun h' hz hTI hTO h1 h2 hsz hk => wpAny_pyIter_zip hz ?_
  have I2 : Inv X pins σ H1 { s1 with heap := h' } := I1.kept (t' := s1.toks) hk
  have S := zip_sep2 (N := s1.heap.objs.size) (fp1 := [a]) (fp2 := [b]) (by simpa using la) (by simpa using lb)
  refine ⟨s1.heap.objs.size + 4, [s1.heap.objs.size + 4, s1.heap.objs.size + 2, s1.heap.objs.size + 3, s1.heap.objs.size, s1.heap.objs.size + 1], _, _, H1, rfl, I2,
    turn_zipM S (Nat.ne_of_lt la) (Nat.ne_of_lt (Nat.lt_succ_of_lt lb)), ⟨hz, hTI, ⟨_, _, hTO⟩, itK0 h1, itK0 h2⟩, fun c hcm => ?_, q⟩
  have hle : s1.heap.objs.size ≤ c := by
    simp only [List.mem_cons, List.not_mem_nil, or_false] at hcm
    rcases hcm with rfl | rfl | rfl | rfl | rfl
    · exact Nat.le_add_right _ _
    · exact Nat.le_add_right _ _
    · exact Nat.le_add_right _ _
    · exact Nat.le_refl _
    · exact Nat.le_add_right _ _
  exact I1.fpOk hle (I1.hok.fresh hle)
def ItE (K : Frag) (k : Bool) (a : Addr) (xs : List V) : It :=
  ⟨fun i H => SqK K k H a xs ∧ i < xs.length, fun i H v H' => ∃ T x, v = .ref T ∧ H T = none ∧ H' = upd H T (.tup [.int (i : Nat), x]) ∧ xs[i]? = some x, fun i H => SqK K k H a xs ∧ i = xs.length⟩
theorem turn_enumM {P : Program} {w : World} {K : Frag} {elts : List Expr} {kk : Nat} {tpos : Pos} {k : Bool} {a e it : Addr} {xs : List V} (hei : e ≠ it) (hea : e ≠ a) (hai : a ≠ it) :
    Turn P w K (.Tuple elts kk tpos) (ItE K k a xs) [e, it] e (fun i h => (∃ old, IsEnum h e it ((i : Nat) : Int) old) ∧ ItK k h it a i) where
  mem := by simp
  obj := fun i h st c hc => by
    obtain ⟨⟨old, he⟩, h1⟩ := st
    have e' : c = e ∨ c = it := by simpa using hc
    rcases e' with rfl | rfl
    · exact ⟨_, he, fun v q => nomatch q⟩
    · exact h1.obj
  keep := fun i h h' st kp => by
    obtain ⟨⟨old, he⟩, h1⟩ := st
    exact ⟨⟨old, kp e (by simp) _ he⟩, h1.keep (kp it (by simp))⟩
  item := by
    intro X hP hw hK hc i pins s σ H E I hf st hg
    subst hP hw hK
    obtain ⟨qx, hi⟩ := hg
    obtain ⟨its, rv, p1, la⟩ := inv_seqK I qx
    obtain ⟨⟨old, he⟩, h1⟩ := st
    have hh : X.A.in1.handled = none := I.ok.hd hc
    have l1 := rv.length
    have W := WalksT.enumerateD (drwK (P := X.prog) (w := X.w) k hh it a hai its.toArray) e hei (by simp; exact ⟨hei, hea⟩) (by simp)
    refine wpAny_mono (turn_core (elts := elts) (kk := kk) (tpos := tpos) (fp := [e, it]) (VS := fun vs => ∃ v, vs = [V.int (i : Nat), v] ∧ xs[i]? = some v) W I hf ?_ (by simp) (i := i) (by simp; omega) ⟨⟨old, he⟩, h1, p1⟩ ?_) ?_ (fun _ _ e => e)
    · intro c hcm
      have e' : c = e ∨ c = it := by simpa using hcm
      rcases e' with rfl | rfl
      · exact Heap.lt_size he
      · exact h1.lt
    · rintro vals ⟨t, x, hx, rfl⟩
      obtain ⟨x', ex, rx⟩ := vals_at rv hx
      exact ⟨[V.int (i : Nat), x'], .cons (show RelV (V.int (i : Nat)) (Value.int i t) from ⟨_, rfl⟩) (.cons rx .nil), ⟨_, rfl, ex⟩, by show 2 ≤ sizeLine; decide⟩
    · rintro r s1 ⟨u, rfl, q⟩
      refine ⟨u, rfl, wpAny_mono q (fun _ s2 z2 => ?_) (fun _ _ e => e)⟩
      obtain ⟨x2, H', I2, r2, ⟨T, vs, e1, e2, e3, v3, e4, e5⟩, ⟨t1, t2, _⟩, fr⟩ := z2
      subst e4
      exact ⟨x2, H', I2, r2, ⟨T, v3, e1, e2, e3, e5⟩, ⟨t1, t2⟩, fr⟩
  done := by
    intro X hP hw hK hc i pins s σ H E I hf st hg
    subst hP hw hK
    obtain ⟨qx, hi⟩ := hg
    obtain ⟨its, rv, p1, la⟩ := inv_seqK I qx
    obtain ⟨⟨old, he⟩, h1⟩ := st
    have hh : X.A.in1.handled = none := I.ok.hd hc
    have l1 := rv.length
    have W := WalksT.enumerateD (drwK (P := X.prog) (w := X.w) k hh it a hai its.toArray) e hei (by simp; exact ⟨hei, hea⟩) (by simp)
    have en : its.toArray.size = i := by simp; omega
    rw [en] at W
    exact end_core (fp := [e, it]) W I hf (by simp) ⟨⟨old, he⟩, h1, p1⟩
  self := fun A i s Q E st h => let ⟨⟨_, he⟩, _⟩ := st; wpAny_pyIter_enum he h
set_option maxHeartbeats 1000000 in
theorem meets_enum1 {v : Value} {o : Obj} {Hv : Heap → Prop} (B : Begins v o Hv) :
    Meets (Builtin.«enumerate.__new__» ⟨[.type "enumerate", v], []⟩) (fun _ R s => Hv s.heap ∧
      R (.ok (.ret (.ref (s.heap.push o).objs.size))) { s with heap := (s.heap.push o).push { cls := .type "enumerate", data := .fields #[.none, .bool false, .ref s.heap.objs.size, rawInt 0, .none, .none] } }) :=
  .of_wp fun prog w A R s h => by
    obtain ⟨hp, g, d, tk, os⟩ := s; obtain ⟨h1, h⟩ := h
    have hsub := sub_enumerate
    have q1 : ∀ {A' : Around} {E : Value → Shared → Prop} {Q : Value → Shared → Prop}, Q (.ref hp.objs.size) ⟨hp.push o, g, d, tk, os⟩ → wpAny (model prog w) A' (pyIter v) Q E ⟨hp, g, d, tk, os⟩ :=
      fun q => B.iter prog w _ _ ⟨hp, g, d, tk, os⟩ _ h1 q
    wp_walk using q1
    refine wpAny_stack_any fun st => wpAny_pure ?_
    split
    · rename_i c _ _ _ _ _
      cases (c == Value.type "enumerate") <;> (wp_walk using q1; exact ⟨_, rfl, h⟩)
    · wp_walk using q1
      exact ⟨_, rfl, h⟩
theorem call_enumM {prog : Program} {w : World} {A : Around} {E : Value → Shared → Prop} {s : Shared} {v : Value} {o : Obj} {Hv : Heap → Prop} {Q : Value → Shared → Prop} (B : Begins v o Hv) (h1 : Hv s.heap)
    (h : ∀ h', IsEnum h' (s.heap.objs.size + 1) s.heap.objs.size 0 .none → h'.get? s.heap.objs.size = some o → (∀ b o, s.heap.get? b = some o → h'.get? b = some o) → Q (.ref (s.heap.objs.size + 1)) { s with heap := h' }) :
    wpAny (model prog w) A (call (.type "enumerate") [v]) Q E s := by
  refine callType_new F.called_enumerate (by decide) (F.typeCall_enumerate_1 _) (F.newCall_enumerate_1 _) (fun obj => F.args_object_init_2 obj _) F.entry_enumerate_new (meets_enum1 B) ⟨h1, ?_⟩
  have hz : (s.heap.push o).objs.size = s.heap.objs.size + 1 := Heap.size_push ..
  have he := Heap.get?_push_size (s.heap.push o) (o := { cls := .type "enumerate", data := .fields #[.none, .bool false, .ref s.heap.objs.size, rawInt 0, .none, .none] }) rfl
  show _ ∧ _
  rw [hz] at he ⊢
  exact ⟨⟨_, he, rfl⟩, h _ he (Heap.get?_push_of_some _ (Heap.get?_push_size _ B.free)) fun b o x => Heap.get?_push_of_some _ (Heap.get?_push_of_some _ x)⟩
def iEnumM (K : Frag) (ta : TA) : TI := fun σ H R => ta σ H fun vs H1 => ∃ (k : Bool) (a : Addr) (xs : List V), vs = [.ref a] ∧ SqK K k H1 a xs ∧ R (ItE K k a xs) H1
theorem pi_enumM {X : Cx} {e : Expr} {ta : TA} {p pos tpos : Pos} {elts : List Expr} {kk : Nat} (hg : Gl X "enumerate") (hm : X.mg "enumerate" = none) (ha : PA X [e] ta) (hs : starEach [e] X.env = [(false, eval e X.env)] := by rfl) :
    PI X (.Tuple elts kk tpos) (.Call (.Name "enumerate" p) [e] [] pos) (iEnumM X.K ta) := by
  refine ⟨fun pins s σ H R I h => ?_⟩
  refine Call_ (ld_blt I hg hm boot_enumerate (PyProof.Rows.callWith_type1 (thn (ha.run pos pins s σ H _ I h) fun us s1 ⟨vs, H1, I1, r1, q1⟩ => ?_) hs rfl))
  obtain ⟨k, a, xs, ex, qx, q⟩ := q1
  subst ex
  obtain rfl := vals1r r1
  obtain ⟨its, rv, p1, la⟩ := inv_seqK I1 qx
  refine call_enumM (begK k a its.toArray) p1 fun h' he hit hk => wpAny_pyIter_enum he ?_
  have I2 : Inv X pins σ H1 { s1 with heap := h' } := I1.kept (t' := s1.toks) hk
  refine ⟨s1.heap.objs.size + 1, [s1.heap.objs.size + 1, s1.heap.objs.size], _, _, H1, rfl, I2, turn_enumM (Nat.succ_ne_self _) (Nat.ne_of_gt (Nat.lt_succ_of_lt la)) (Nat.ne_of_lt la), ⟨⟨.none, he⟩, itK0 hit⟩, fun c hcm => ?_, q⟩
  have hle : s1.heap.objs.size ≤ c := by
    simp only [List.mem_cons, List.not_mem_nil, or_false] at hcm
    rcases hcm with rfl | rfl
    · exact Nat.le_add_right _ _
    · exact Nat.le_refl _
  exact I1.fpOk hle (I1.hok.fresh hle)
theorem walk_enumM {K : Frag} {k : Bool} {a : Addr} {xs : List V} : Walk (ItE K k a xs) xs.length (fun H => SqK K k H a xs) (YPair (fun i => some (.int (i : Nat))) (fun i => xs[i]?)) :=
  ⟨fun i _ hi q => ⟨q, hi⟩, fun _ q => ⟨q, rfl⟩, fun i H v H' _ q y => by
    obtain ⟨T, x, h1, h2, h3, h4⟩ := y
    exact ⟨T, .int (i : Nat), x, h1, h2, h3, rfl, h4⟩⟩
end Z
set_option maxHeartbeats 4000000
namespace Z
open PySem PySem.Spec PyProof.Rows L2
/-- all but lists stands -/
def SameN (H H' : Hp) : Prop := ∀ a o, H a = some o → (∀ xs, o ≠ .lst xs) → H' a = some o
theorem SameN.of {H H' : Hp} (s : Same H H') : SameN H H' := fun a o h _ => s a o h
theorem SameN.trans {H H1 H2 : Hp} (s : SameN H H1) (t : SameN H1 H2) : SameN H H2 := fun a o h n => t a o (s a o h n) n
theorem SameN.put {H : Hp} {l : Addr} {xs ys : List V} (h : H l = some (.lst xs)) : SameN H (upd H l (.lst ys)) := fun a o e n => by
  rw [upd_ne]
  · exact e
  · intro q
    rw [q, h] at e
    exact n xs (Option.some.inj e).symm
/-- a list of n items, each told by It -/
def Ls (H : Hp) (l : Addr) (n : Nat) (It : Hp → V → Nat → Prop) : Prop := ∃ xs, H l = some (.lst xs) ∧ xs.length = n ∧ ∀ k x, xs[k]? = some x → It H x k
def Mono (It : Hp → V → Nat → Prop) : Prop := ∀ H H' x k, SameN H H' → It H x k → It H' x k
theorem Ls.mono {H H' : Hp} {l : Addr} {n : Nat} {It : Hp → V → Nat → Prop} (m : Mono It) (s : Same H H') (h : Ls H l n It) : Ls H' l n It := by
  obtain ⟨xs, h1, h2, h3⟩ := h
  exact ⟨xs, s _ _ h1, h2, fun k x e => m _ _ _ _ (SameN.of s) (h3 k x e)⟩
theorem Ls.imp {H : Hp} {l : Addr} {n : Nat} {It Jt : Hp → V → Nat → Prop} (h : Ls H l n It) (i : ∀ x k, k < n → It H x k → Jt H x k) : Ls H l n Jt := by
  obtain ⟨xs, h1, h2, h3⟩ := h
  exact ⟨xs, h1, h2, fun k x e => i x k (by
    by_cases c : k < xs.length
    · omega
    · rw [List.getElem?_eq_none (by omega)] at e
      cases e) (h3 k x e)⟩
/-- one more item behind -/
theorem Ls.snoc {H : Hp} {l : Addr} {xs : List V} {y : V} {n : Nat} {It : Hp → V → Nat → Prop} (m : Mono It) (h1 : H l = some (.lst xs)) (h2 : xs.length = n) (h3 : ∀ k x, xs[k]? = some x → It H x k) (hy : It H y n) : Ls (upd H l (.lst (xs ++ [y]))) l (n + 1) It := by
  refine ⟨_, upd_same, by simp [h2], fun k x e => m _ _ _ _ (SameN.put h1) ?_⟩
  rw [List.getElem?_append] at e
  split at e
  · exact h3 k x e
  · rename_i c
    have : k = n := by
      by_cases q : k - xs.length = 0
      · omega
      · rw [List.getElem?_eq_none (by simp; omega)] at e
        cases e
    subst this
    rw [h2, Nat.sub_self] at e
    cases e
    exact hy
section
variable {K : Frag} {σ : L2.St} {H1 : Hp} {Q : VK} {te : TE} {i j : Nat}
/-- a comprehension whose turns give items told by It -/
theorem z_lcP {J : It} {n : Nat} {G : Hp → Prop} {Y : Nat → Hp → V → Hp → Prop} {g : TG} {vs : List Nat} (w : Walk J n G Y) (It : Hp → V → Nat → Prop) (m : Mono It) (hn : n ≤ 16777216) (hG : ∀ H', Same H1 H' → G H')
    (hs : ∀ k x H H' (N : VK), k < n → Same H1 H → Y k H x H' → (∀ y H4, Same H H4 → It H4 y k → N y H4) → g x (wipe σ vs) H' fun σ2 H2 => wipe σ2 vs = wipe σ vs ∧ te σ2 H2 N)
    (k : ∀ D H', H1 D = none → Same H1 H' → Ls H' D n It → Q (.ref D) H') : zLc J g tYes te vs σ H1 Q := fun D hD => by
  refine lc_it w (fun i H => Same H1 H ∧ Ls H D i It) ⟨Same.new hD, [], upd_same, rfl, fun k x e => by simp at e⟩ (fun i H hi p => hG H p.1) (fun i x H H' hi p y => ?_) (fun H p => k D H hD p.1 p.2)
  refine hs i x H H' _ hi p.1 y (fun y H4 s4 hy => ?_)
  obtain ⟨xs, h1, h2, h3⟩ := p.2.mono m s4
  refine ⟨_, h1, ?_, ?_, Ls.snoc m h1 h2 h3 hy⟩
  · rw [sizeLine_eq]
    omega
  · intro b o hb
    rw [upd_ne (ne_of_none hb hD)]
    exact s4 _ _ (p.1 _ _ hb)
/-- over a range -/
theorem z_lcRP {n : Int} (It : Hp → V → Nat → Prop) (m : Mono It) {vs : List Nat} (h1 : -4611686018427387904 ≤ n) (h2 : n ≤ 16777216)
    (hs : ∀ (k : Nat) H (N : VK), k < n.toNat → Same H1 H → (∀ y H4, Same H H4 → It H4 y k → N y H4) → wipe ((wipe σ vs).set i (some (.int k))) vs = wipe σ vs ∧ te ((wipe σ vs).set i (some (.int k))) H N)
    (k : ∀ D H', H1 D = none → Same H1 H' → Ls H' D n.toNat It → Q (.ref D) H') : zLcR (gName i) tYes te vs σ [.int n] H1 Q := by
  refine ⟨n, rfl, by omega, by omega, ?_⟩
  refine z_lcP (walk_range (lo := 0) (n := n.toNat)) It m (by omega) (fun _ _ => trivial) (fun k x H H' N hk s y c => ?_) k
  obtain ⟨rfl, rfl⟩ := y
  have e : (0 : Int) + (k : Int) = k := Int.zero_add _
  dsimp only
  rw [e]
  exact hs k H' N hk s c
/-- over any list -/
theorem z_lcVP {a : Addr} {xs : List V} (It : Hp → V → Nat → Prop) (m : Mono It) {vs : List Nat} (h : H1 a = some (.lst xs)) (hn : xs.length ≤ 16777216)
    (hs : ∀ k x H (N : VK), xs[k]? = some x → Same H1 H → (∀ y H4, Same H H4 → It H4 y k → N y H4) → wipe ((wipe σ vs).set i (some x)) vs = wipe σ vs ∧ te ((wipe σ vs).set i (some x)) H N)
    (k : ∀ D H', H1 D = none → Same H1 H' → Ls H' D xs.length It → Q (.ref D) H') : zLcL K (gName i) tYes te vs σ (.ref a) H1 Q := by
  refine ⟨a, rfl, ⟨_, SqL.of h⟩, ?_⟩
  refine z_lcP (walk_list (K := K) (a := a) (xs := xs)) It m hn (fun H' s => SqL.of (s _ _ h)) (fun k x H H' N hk s y c => ?_) k
  obtain ⟨rfl, hx⟩ := y
  exact hs k x H' N hx s c
/-- over any list, the values told -/
theorem z_lcVF {a : Addr} {xs : List V} (f : Nat → V) {vs : List Nat} (h : H1 a = some (.lst xs)) (hn : xs.length ≤ 16777216)
    (hs : ∀ k x H (N : VK), xs[k]? = some x → Same H1 H → (∀ H4, Same H H4 → N (f k) H4) → wipe ((wipe σ vs).set i (some x)) vs = wipe σ vs ∧ te ((wipe σ vs).set i (some x)) H N)
    (k : ∀ D H', H1 D = none → Same H1 H' → H' D = some (.lst ((List.range xs.length).map f)) → Q (.ref D) H') : zLcL K (gName i) tYes te vs σ (.ref a) H1 Q := by
  refine ⟨a, rfl, ⟨_, SqL.of h⟩, ?_⟩
  refine z_lcF (walk_list (K := K) (a := a) (xs := xs)) f hn (fun H' s => SqL.of (s _ _ h)) (fun k x H H' N hk s y c => ?_) k
  obtain ⟨rfl, hx⟩ := y
  exact hs k x H' N hx s c
/-- over enumerate -/
def zLcE (K : Frag) (g : TG) (tt : TT) (te : TE) (vs : List Nat) (σ : L2.St) (xs : List V) (H1 : Hp) (Q : VK) : Prop := ∃ (k : Bool) (a : Addr) (ys : List V), xs = [.ref a] ∧ SqK K k H1 a ys ∧ zLc (ItE K k a ys) g tt te vs σ H1 Q
theorem z_lcES {g : TG} {tt : TT} {t : TA} {vs : List Nat} (q : t σ H1 fun xs H2 => zLcE K g tt te vs σ xs H2 Q) : tLc (iEnumM K t) g tt te vs σ H1 Q := q
/-- over zip, lists and tuples -/
def zLcM (K : Frag) (g : TG) (tt : TT) (te : TE) (vs : List Nat) (σ : L2.St) (xs : List V) (H1 : Hp) (Q : VK) : Prop := ∃ (k1 k2 : Bool) (a b : Addr) (us ys : List V), xs = [.ref a, .ref b] ∧ SqK K k1 H1 a us ∧ SqK K k2 H1 b ys ∧ zLc (ItZ K k1 k2 a b us ys) g tt te vs σ H1 Q
theorem z_lcMS {g : TG} {tt : TT} {t : TA} {vs : List Nat} (q : t σ H1 fun xs H2 => zLcM K g tt te vs σ xs H2 Q) : tLc (iZipM K t) g tt te vs σ H1 Q := q
def zFoE (K : Frag) (g : TG) (tb : TS) (D : Ends) (σ : L2.St) (vs : List V) (H1 : Hp) : Prop := ∃ (k : Bool) (a : Addr) (xs : List V), vs = [.ref a] ∧ SqK K k H1 a xs ∧ ∃ W : Nat → Nat → L2.St → Hp → Prop, (∃ m, W 0 m σ H1) ∧ ∀ i m σ H, W i m σ H →
    ((ItE K k a xs).stop i H ∧ D.nx σ H) ∨ ((ItE K k a xs).go i H ∧ ∃ N : L2.St → Hp → Prop, (∀ σ' H', N σ' H' → ∃ m', m' < m ∧ W (i + 1) m' σ' H') ∧ ∀ x H', (ItE K k a xs).yld i H x H' → g x σ H' fun σ2 H2 => tb { D with nx := N, ct := N, bk := D.nx } σ2 H2)
theorem z_foES {g : TG} {tb : TS} {D : Ends} {t : TA} (q : t σ H1 fun vs H2 => zFoE K g tb D σ vs H2) : tFor (iEnumM K t) g tb D σ H1 := q
theorem z_foE {tb : TS} {D : Ends} {a : Addr} {k : Bool} {xs : List V} (I : Nat → L2.St → Hp → Prop) (h0 : I 0 σ H1) (hl : ∀ i σ H, I i σ H → SqK K k H a xs)
    (hs : ∀ (k : Nat) x σ H, xs[k]? = some x → I k σ H → ∀ H', Same H H' → tb { D with nx := I (k + 1), ct := I (k + 1), bk := D.nx } ((σ.set i (some (.int k))).set j (some x)) H') (hd : ∀ σ H, I xs.length σ H → D.nx σ H) :
    zFoE K (gTup K 2 (gCons (gName i) (gCons (gName j) gNil))) tb D σ [.ref a] H1 :=
  ⟨_, a, _, rfl, hl _ _ _ h0, for_it walk_enumM I h0 (fun k σ H _ p => hl k σ H p) (fun k x σ H H' _ p y => by
    obtain ⟨T, u, v, rfl, hT, rfl, hu, hv⟩ := y
    cases hu
    exact z_gtup upd_same rfl ⟨_, _, rfl, _, _, rfl, rfl, hs k v σ H hv p _ (Same.new hT)⟩) hd⟩
def zFo3 (g : TG) (tb : TS) (D : Ends) (σ : L2.St) (vs : List V) (H1 : Hp) : Prop := ∃ (a b c : Int) (n : Nat), vs = [.int a, .int b, .int c] ∧ RgC a b c n ∧ ∃ W : Nat → Nat → L2.St → Hp → Prop, (∃ m, W 0 m σ H1) ∧ ∀ k m σ H, W k m σ H →
    ((Itc a c n).stop k H ∧ D.nx σ H) ∨ ((Itc a c n).go k H ∧ ∃ N : L2.St → Hp → Prop, (∀ σ' H', N σ' H' → ∃ m', m' < m ∧ W (k + 1) m' σ' H') ∧ ∀ x H', (Itc a c n).yld k H x H' → g x σ H' fun σ2 H2 => tb { D with nx := N, ct := N, bk := D.nx } σ2 H2)
theorem z_fo3S {g : TG} {tb : TS} {D : Ends} {t : TA} (q : t σ H1 fun vs H2 => zFo3 g tb D σ vs H2) : tFor (iRng3 t) g tb D σ H1 := q
end
section
variable {K : Frag} {H : Hp} {Q : VK}
theorem Bits.mul {a b : Nat} {i j : Int} (ha : Bits a i) (hb : Bits b j) : Bits (a + b) (i * j) := by
  unfold Bits at *
  rw [Int.natAbs_mul, Nat.pow_add]
  exact Nat.mul_lt_mul'' ha hb
theorem Bits.add {a : Nat} {i j : Int} (ha : Bits a i) (hb : Bits a j) : Bits (a + 1) (i + j) := by
  unfold Bits at *
  rw [Nat.pow_succ]
  omega
theorem Bits.neg {a : Nat} {i : Int} (ha : Bits a i) : Bits a (-i) := by
  unfold Bits at *
  omega
theorem Bits.up {a b : Nat} {i : Int} (h : Bits a i) (hb : a ≤ b) : Bits b i := bits_up h hb
theorem Bits.zero {a : Nat} : Bits a 0 := Nat.two_pow_pos a
theorem Bits.small {i : Int} {n : Nat} (h1 : -(1 <<< n : Nat) < i) (h2 : i < (1 <<< n : Nat)) : Bits n i := by
  unfold Bits
  rw [Nat.one_shiftLeft] at h1 h2
  omega
theorem Bits.div {a : Nat} {i j : Int} (h : Bits a i) : Bits a (i / j) := by
  refine h.le ?_
  have := Int.natAbs_ediv_le_natAbs i j
  exact this
theorem Bits.gcd {a : Nat} {i j : Int} (h : Bits a j) (h0 : j ≠ 0) : Bits a ((Int.gcd i j : Nat) : Int) := by
  refine h.le ?_
  rw [Int.natAbs_natCast]
  exact Nat.le_of_dvd (by omega) (Int.gcd_dvd_natAbs_right ..)
theorem z_repB {i j : Int} {a b : Nat} (ha : Bits a i) (hb : Bits b j) (h0 : 0 < a) (h1 : 0 < b) (h : a + b ≤ 1000000) (q : Q (.int (i * j)) H) : zRep (.int i) (.int j) H Q := .inl (z_mulB ha hb h0 h1 h q)
end
end Z
set_option maxHeartbeats 4000000
namespace Z
open PySem PySem.Spec PyProof.Rows L2
section
variable {fb : List Chk} {fn : List He5.DefA} {K : Frag}
theorem Says2.fact (c : Says2 fb fn K) (i : Nat) {f : Chk} (h : fb[i]? = some f := by rfl) : f K = true := by
  have q := (He.ba (congrArg (fun z : SeenZ => z.1) c)).1
  exact List.all_eq_true.mp q f (List.mem_of_getElem? h)
theorem Says2.def_ (c : Says2 fb fn K) (i : Nat) {d : He5.DefA} (h : fn[i]? = some d := by rfl) : ∃ fd, FunD K d.name d.qual d.params d.body d.scope (d.dvs K) (d.kws K) (d.at_ K) fd := by
  have q := (He.ba (congrArg (fun z : SeenZ => z.1) c)).2
  have e : fn.map (fun d => He5.fnA K (d.at_ K)) = fn.map He5.DefA.val := congrArg (fun z : SeenZ => z.2) c
  have e2 := congrArg (fun l => l[i]?) e
  simp only [List.getElem?_map, h, Option.map_some] at e2
  exact He5.DefA.funD (Option.some.inj e2) (List.all_eq_true.mp q d (List.mem_of_getElem? h))
end
structure LwB (fb : List Chk) (fn : List He5.DefA) (K : Frag) (mg : Str → Option Value) : Prop where
  at_ : ∃ h : Heap, K.In h ∧ h.Ns mainGlobals mg
  c : Says2 fb fn K
/-- a class whose attributes are read by their names; a staticmethod of it -/
theorem cread_ok {K : Frag} {x : Str} (h : cRead x K = true) : ClX.CRead K (He.ga K x) (.type "type") := by
  obtain ⟨h1, h2⟩ := He.ba h
  exact ⟨h1, He.eqO_ok h2⟩
/-- C.m is a staticmethod: its record at p, its def at f -/
structure SMet (K : Frag) (C : Addr) (m : Str) (p f : Addr) : Prop where
  at_ : PySem.W.findCls K (.ref C) (.type "type") m = some (.get (.builtin "staticmethod.__get__") (.ref p) .none (.ref C))
  rc : ∃ rest, PySem.W.recIn K p "staticmethod" = some (.ref f :: rest)
theorem smet_ok {K : Frag} {x m : Str} (h : cStat x m K = true) : SMet K (He.ga K x) m (He.ma K (He.ga K x) m) (He5.wf K (He.ga K x) "staticmethod" m) := by
  obtain ⟨h1, h2⟩ := He5.wrapB_ok h
  exact ⟨h1, h2⟩
structure Sta (P : Program) (w : World) (K : Frag) (mg : Str → Option Value) (base : Heap) (k : Nat) (C : Addr) (m : Str) (sp : Sp) (dvs : List V) : Prop where
  ex : ∃ (p f : Addr) (fd : FuncData) (ps : List Str) (ds : List Value), ClX.CRead K C (.type "type") ∧ SMet K C m p f ∧ FnOk P w K mg base (L2N.CX P w) k f fd ps sp ∧ PySem.W.keepIn K (.ref f) = true ∧ Binds K fd ps ds ∧ Vals dvs ds
/-- C.m(..), m a staticmethod of C -/
def tStaW (C : Addr) (sp : Sp) (dvs : List V) (W : WX) (ta : TE) (t : TA) : TE := fun σ H Q => ta σ H fun x H1 => x = .ref C ∧ t σ H1 fun vs H2 => sp (vs ++ dvs) H2 Q (fun cls d H' => W cls d σ H')
section
variable {X : Cx} {k j : Nat} {C : Addr} {sp : Sp} {dvs : List V} {W : WX} {m : Str} {pos apos : Pos} {e o : Expr} {es : List Expr} {ta : TE} {t : TA}
theorem pe_sm {pl : Sem Bool} (c : Sta X.prog X.w X.K X.mg X.base k C m sp dvs) (hr : Room j X.A) (hk : k ≤ j) (tk : L2N.Takes X W) (ho : PE X o ta) (ha : PA X (e :: es) t)
    (hst : starEach (e :: es) X.env = (false, eval e X.env) :: starEach es X.env := by rfl) (hpl : (backTo pos (starEach es X.env)).any (·.1) = false := by rfl)
    (ht : eval (.Call (.Attribute o m apos) (e :: es) [] pos) X.env = (do
      let ov ← eval o X.env; standAt apos.atName
      let (f, first) ← holding [ov] (getMethod ov m pl); callWith pos f first (backTo pos (starEach (e :: es) X.env)) (backToKw pos (keywordEach [] X.env))) := by rfl) :
    PE X (.Call (.Attribute o m apos) (e :: es) [] pos) (tStaW C sp dvs W ta t) := by
  obtain ⟨p, f, fd, ps, ds, rd, sm, F, kp, b, d⟩ := c.ex
  obtain ⟨rest, hp⟩ := sm.rc
  refine ⟨fun pi s0 sl H0 Q0 J h0 => ?_⟩
  refine PySem.W.methodCall_KW (pl := pl) (thn (ho.run pi s0 sl H0 _ J h0) fun u s1 ⟨y, H1, J1, ry, ey, q⟩ => ?_) ht
  subst ey
  obtain rfl : u = Value.ref C := ry
  refine PySem.W.method_cls J1.kIn rd.ga (PySem.W.cls_bind J1.kIn rd.rd sm.at_ (wpAny_call (PySem.W.sm_get (s := { s1 with toks := s1.toks + 1 }) J1.kIn hp (PySem.W.handed_on rfl ?_))))
  have J2 : Inv X pi sl H1 { s1 with toks := s1.toks + 1 } := J1.tok _
  refine PySem.W.callWith_K (first := []) (h₀ := X.base) J.ok.mod.kin kp (thn (ha.run pos pi _ sl H1 _ J2 q) fun us s2 ⟨xs, H2, J3, r, q2⟩ => ⟨J3.kIn, ?_⟩) hst hpl
  exact run_fnSD (E := fun σ cls d H => W cls d σ H) F (hr.mono hk) b d (passW tk sl) J3 r q2
end
section
variable {K : Frag} {σ : L2.St} {H : Hp} {Q : VK} {ta : TE} {t : TA} {sp : Sp} {dvs : List V} {W : WX} {C : Addr}
def zSta (C : Addr) (x : V) (R : Prop) : Prop := x = .ref C ∧ R
theorem z_sta (q : ta σ H fun x H1 => zSta C x (t σ H1 fun vs H2 => sp (vs ++ dvs) H2 Q (fun cls d H' => W cls d σ H'))) : tStaW C sp dvs W ta t σ H Q := q
theorem z_sta1 {R : Prop} (q : R) : zSta C (.ref C) R := ⟨rfl, q⟩
end
end Z
set_option maxHeartbeats 4000000
namespace Z
open PySem PySem.Spec PyProof.Rows L2
end Z
set_option maxHeartbeats 4000000
namespace Z
open PySem PySem.Spec PyProof.Rows L2
section
variable {K : Frag} {σ : L2.St} {H1 : Hp} {Q : VK} {te : TE} {i j : Nat}
def zLcT (K : Frag) (g : TG) (tt : TT) (te : TE) (vs : List Nat) (σ : L2.St) (x : V) (H1 : Hp) (Q : VK) : Prop := ∃ a, x = .ref a ∧ (∃ xs, SqT K H1 a xs) ∧ zLc (Itt K a) g tt te vs σ H1 Q
theorem z_lcTS {g : TG} {tt : TT} {t : TE} {vs : List Nat} (q : t σ H1 fun x H2 => zLcT K g tt te vs σ x H2 Q) : tLc (iTup K t) g tt te vs σ H1 Q := q
theorem z_lcTF {a : Addr} {xs : List V} (f : Nat → V) {vs : List Nat} (h : H1 a = some (.tup xs)) (hn : xs.length ≤ 16777216)
    (hs : ∀ k x H (N : VK), xs[k]? = some x → Same H1 H → (∀ H4, Same H H4 → N (f k) H4) → wipe ((wipe σ vs).set i (some x)) vs = wipe σ vs ∧ te ((wipe σ vs).set i (some x)) H N)
    (k : ∀ D H', H1 D = none → Same H1 H' → H' D = some (.lst ((List.range xs.length).map f)) → Q (.ref D) H') : zLcT K (gName i) tYes te vs σ (.ref a) H1 Q := by
  refine ⟨a, rfl, ⟨_, SqT.of h⟩, ?_⟩
  refine z_lcF (walk_tup (K := K) (a := a) (xs := xs)) f hn (fun H' s => SqT.of (s _ _ h)) (fun k x H H' N hk s y c => ?_) k
  obtain ⟨rfl, hx⟩ := y
  exact hs k x H' N hx s c
/-- a loop over a tuple -/
def zFoT (K : Frag) (g : TG) (tb : TS) (D : Ends) (σ : L2.St) (x : V) (H1 : Hp) : Prop := ∃ a, x = .ref a ∧ (∃ xs, SqT K H1 a xs) ∧ ∃ W : Nat → Nat → L2.St → Hp → Prop, (∃ m, W 0 m σ H1) ∧ ∀ k m σ H, W k m σ H →
    ((Itt K a).stop k H ∧ D.nx σ H) ∨ ((Itt K a).go k H ∧ ∃ N : L2.St → Hp → Prop, (∀ σ' H', N σ' H' → ∃ m', m' < m ∧ W (k + 1) m' σ' H') ∧ ∀ x H', (Itt K a).yld k H x H' → g x σ H' fun σ2 H2 => tb { D with nx := N, ct := N, bk := D.nx } σ2 H2)
theorem z_foTS {g : TG} {tb : TS} {D : Ends} {t : TE} (q : t σ H1 fun x H2 => zFoT K g tb D σ x H2) : tFor (iTup K t) g tb D σ H1 := q
/-- an own operator of two instances -/
theorem z_own2 {r : R2} {C : Addr} {sp : Sp} {E : XK} {a b dx dy : Addr} {fs gs : List (Str × V)} {H : Hp} (h1 : H a = some (.ins C dx fs)) (h2 : H b = some (.ins C dy gs)) (q : sp [.ref a, .ref b] H (fun v H' => (∃ q, v = .ref q) ∧ Q v H') E) : rOr r (rOwn2 C sp E) (.ref a) (.ref b) H Q :=
  .inr ⟨a, b, dx, dy, fs, gs, rfl, rfl, h1, h2, q⟩
/-- lcm of two numbers -/
theorem z_lcm {H : Hp} {a b : Int} {B C : Nat} (ha : Bits B a) (hb : Bits C b) (h1 : B ≤ 6000) (h2 : C ≤ 6000) (q : Q (.int ((Nat.lcm a.natAbs b.natAbs : Nat) : Int)) H) : rLcm [.int a, .int b] H Q :=
  ⟨a, b, rfl, Nat.lt_of_lt_of_le ha (Nat.pow_le_pow_right (by decide) h1), Nat.lt_of_lt_of_le hb (Nat.pow_le_pow_right (by decide) h2), q⟩
theorem lcm_facts {a b : Int} (ha : 0 < a) (hb : 0 < b) : 0 < ((Nat.lcm a.natAbs b.natAbs : Nat) : Int) ∧ a ∣ ((Nat.lcm a.natAbs b.natAbs : Nat) : Int) ∧ b ∣ ((Nat.lcm a.natAbs b.natAbs : Nat) : Int) ∧ ∀ B C, Bits B a → Bits C b → Bits (B + C) ((Nat.lcm a.natAbs b.natAbs : Nat) : Int) := by
  have p : 0 < Nat.lcm a.natAbs b.natAbs := Nat.lcm_pos (by omega) (by omega)
  refine ⟨by omega, ?_, ?_, fun B C h1 h2 => ?_⟩
  · rw [← Int.natAbs_dvd]
    exact_mod_cast Nat.dvd_lcm_left _ _
  · rw [← Int.natAbs_dvd]
    exact_mod_cast Nat.dvd_lcm_right _ _
  · refine (h1.mul h2).le ?_
    rw [Int.natAbs_natCast, Int.natAbs_mul]
    exact Nat.div_le_self _ _
end
end Z
set_option maxHeartbeats 4000000
namespace Z
open PySem PySem.Spec PyProof.Rows L2
end Z
set_option maxHeartbeats 4000000
namespace Z
open PySem PySem.Spec PyProof.Rows L2
def tRevT (K : PySem.W.Frag) (te : TE) : TE := fun σ H Q => te σ H fun x H1 => ∃ a xs, x = .ref a ∧ SqT K H1 a xs ∧ ∀ p, H1 p = none → Q (.ref p) (upd H1 p (.tup xs.reverse))
section
variable {X : Cx}
/-- a list or a tuple walked -/
def iOr (w1 w2 : TI) : TI := fun σ H R => w1 σ H R ∨ w2 σ H R
theorem pi_or {tg it : Expr} {w1 w2 : TI} (h1 : PI X tg it w1) (h2 : PI X tg it w2) : PI X tg it (iOr w1 w2) := ⟨fun pins s σ H R I h => h.elim (h1.run pins s σ H R I) (h2.run pins s σ H R I)⟩
end
section
variable {K : Frag} {σ : L2.St} {H : Hp} {Q : VK}
def zRevT (K : Frag) (x : V) (H : Hp) (Q : VK) : Prop := ∃ a xs, x = .ref a ∧ SqT K H a xs ∧ ∀ p, H p = none → Q (.ref p) (upd H p (.tup xs.reverse))
theorem z_revTS {te : TE} (q : te σ H fun x H1 => zRevT K x H1 Q) : tRevT K te σ H Q := q
theorem z_lcL1 {w1 w2 : TI} {g : TG} {tt : TT} {te : TE} {vs : List Nat} (q : tLc w1 g tt te vs σ H Q) : tLc (iOr w1 w2) g tt te vs σ H Q := .inl q
theorem z_lcR1 {w1 w2 : TI} {g : TG} {tt : TT} {te : TE} {vs : List Nat} (q : tLc w2 g tt te vs σ H Q) : tLc (iOr w1 w2) g tt te vs σ H Q := .inr q
theorem z_glst {D : L2.St → Hp → Prop} {p : Addr} {xs : List V} {n : Nat} {ts : TGs} (h : H p = some (.lst xs)) (hl : xs.length = n) (q : ts xs σ H D) : gLst K n ts (.ref p) σ H D := ⟨p, xs, rfl, SqL.of h, hl, q⟩
end
end Z
set_option maxHeartbeats 4000000
namespace Z
open PySem PySem.Spec PyProof.Rows L2
/-- those that the mask does not hold, each once -/
theorem seenG3_eq {n : Nat} {fb : List Chk} {fn : List He5.DefA} {g : Addr → Option Obj} {st : Shared} (h : ∀ a, g a = st.heap.get? a) : seenG3 n fb fn g = (hookZ3 n fb fn).obs st := by
  rw [show g = st.heap.get? from funext h] <;> rfl
end Z
set_option maxHeartbeats 4000000
namespace Z
open PySem PySem.Spec PyProof.Rows L2
section
variable {K : Frag} {σ : L2.St} {H1 : Hp} {Q : VK} {te : TE} {i j : Nat}
def Sq2 (H : Hp) (a : Addr) (xs : List V) : Prop := H a = some (.lst xs) ∨ H a = some (.tup xs)
theorem Sq2.mono {H H' : Hp} {a : Addr} {xs : List V} (s : Same H H') (h : Sq2 H a xs) : Sq2 H' a xs := h.imp (s _ _) (s _ _)
end
end Z
set_option maxHeartbeats 4000000
namespace Z
open PySem PySem.Spec PyProof.Rows L2
/-- one of two readings of an expression -/
def tOrE (ta tb : TE) : TE := fun σ H Q => ta σ H Q ∨ tb σ H Q
/-- a property of a class -/
structure Prp (P : Program) (w : World) (K : Frag) (mg : Str → Option Value) (base : Heap) (k : Nat) (C : Addr) (f : Str) (sp : Sp) : Prop where
  ex : ∃ (p g : Addr) (fd : FuncData) (ps : List Str), Cls K C ∧ PropOf K C f p g ∧ FnOk P w K mg base (L2N.CX P w) k g fd ps sp ∧ Binds K fd ps []
section
variable {X : Cx}
theorem pe_orE {e : Expr} {ta tb : TE} (h1 : PE X e ta) (h2 : PE X e tb) : PE X e (tOrE ta tb) := ⟨fun pins s σ H Q I h => h.elim (h1.run pins s σ H Q I) (h2.run pins s σ H Q I)⟩
theorem pe_conK {K : Frag} {e : Expr} {f : Str} {pos : Pos} {te : TE} (hK : X.K = K) (he : PE X e te) (hb : attributeBase e f X.env (eval e X.env) = eval e X.env) : PE X (.Attribute e f pos) (tCon K te f) := by
  subst hK
  exact pe_con he hb
theorem pe_prp {k j : Nat} {C : Addr} {sp : Sp} {E : XK} {e : Expr} {f : Str} {pos : Pos} {te : TE} (c : Prp X.prog X.w X.K X.mg X.base k C f sp) (hr : Room j X.A) (hk : k + 1 ≤ j) (hx : Passes (L2N.CX X.prog X.w) X.nox E) (he : PE X e te)
    (hb : attributeBase e f X.env (eval e X.env) = eval e X.env) : PE X (.Attribute e f pos) (tProp C sp [] E te) := by
  obtain ⟨p, g, fd, ps, cl, hp, F, b⟩ := c.ex
  exact pe_prop he cl hp F (hr.mono hk) b .nil hx hb
end
theorem con_ok {K : Frag} {x f v : Str} (h : cCon x f v K = true) : ∃ u, Con K (He.ga K x) f (.str v) u := by
  obtain ⟨h1, h2⟩ := He.ba h
  split at h1
  · rename_i s t e
    obtain ⟨k1, k2⟩ := He.ba h1
    have e1 := of_decide_eq_true k1
    subst e1
    exact ⟨_, e, ⟨t, rfl⟩, of_decide_eq_true k2, by simpa using h2⟩
  · cases h1
theorem prp_ok {K : Frag} {x m : Str} (h : cPrp x m K = true) : PropOf K (He.ga K x) m (He.ma K (He.ga K x) m) (He5.wf K (He.ga K x) "property" m) := by
  obtain ⟨h1, h⟩ := He.ba h
  obtain ⟨h2, h⟩ := He.ba h
  obtain ⟨h3, h4⟩ := He.ba h
  refine ⟨He.eqO_ok h1, of_decide_eq_true h2, of_decide_eq_true h3, ?_⟩
  unfold He5.wf
  split at h4
  · rename_i f r e
    exact ⟨r, by rw [e]⟩
  · cases h4
section
variable {K : Frag} {σ : L2.St} {H : Hp} {Q : VK} {te : TE}
def zCon (K : Frag) (f : Str) (x : V) (H : Hp) (Q : VK) : Prop := ∃ a C dx fs v u, x = .ref a ∧ H a = some (.ins C dx fs) ∧ Cls K C ∧ Con K C f v u ∧ fs.lookup f = none ∧ Q v H
theorem z_conS {f : Str} (q : te σ H fun x H1 => zCon K f x H1 Q) : tCon K te f σ H Q := q
theorem z_con1 {f : Str} {a C dx : Addr} {fs : List (Str × V)} {v : V} (h : H a = some (.ins C dx fs)) (c : Cls K C) (l : fs.lookup f = none) (k : ∃ u, Con K C f v u) (q : Q v H) : zCon K f (.ref a) H Q := by
  obtain ⟨u, k⟩ := k
  exact ⟨a, C, dx, fs, v, u, rfl, h, c, k, l, q⟩
def zPrp (C : Addr) (sp : Sp) (E : XK) (x : V) (H : Hp) (Q : VK) : Prop := ∃ a dx fs, x = .ref a ∧ H a = some (.ins C dx fs) ∧ sp [.ref a] H Q E
theorem z_prpS {C : Addr} {sp : Sp} {E : XK} (q : te σ H fun x H1 => zPrp C sp E x H1 Q) : tProp C sp [] E te σ H Q := q
theorem z_prp1 {C : Addr} {sp : Sp} {E : XK} {a dx : Addr} {fs : List (Str × V)} (h : H a = some (.ins C dx fs)) (q : sp [.ref a] H Q E) : zPrp C sp E (.ref a) H Q := ⟨a, dx, fs, rfl, h, q⟩
theorem z_orL {ta tb : TE} (q : ta σ H Q) : tOrE ta tb σ H Q := .inl q
theorem z_orR {ta tb : TE} (q : tb σ H Q) : tOrE ta tb σ H Q := .inr q
end
end Z
set_option maxHeartbeats 4000000
namespace Z
open PySem PySem.Spec PyProof.Rows L2
/-- a caught exception has landed, ahead of the clauses -/
structure Down (X : Cx) (pins : List (Addr × Obj)) (a : Addr) (B : Heap) (sI : Shared) (σ : L2.St) (H : Hp) (cls : Value) (d : Option Addr) (s : Shared) : Prop where
  inv : Inv X pins σ H sI
  nb : ∀ b o, sI.heap.get? b = some o → b ∉ frs X.stack → B.get? b = some o
  fly : HandSPX.FlyingZ B (X.env :: X.outer) a (L2N.Zn cls d) s.heap
  up : sI.heap.UpToSlots s.heap
  na : H a = none
  os : s.os = sI.os
  ag : AllBare s.gens
section
variable {X : Cx} {pins : List (Addr × Obj)} {a : Addr} {B : Heap} {sI s : Shared} {σ : L2.St} {H : Hp} {cls : Value} {d : Option Addr} {D : Ends} {Wout : WX}
theorem Down.obj (n : Down X pins a B sI σ H cls d s) : ∃ o vs, s.heap.get? a = some o ∧ L2N.Zn cls d o ∧ o.data = .fields vs := by
  obtain ⟨_, _, _, o, vs, _, _, _, ho, hz, hd, _⟩ := n.fly
  exact ⟨o, vs, ho, hz, hd⟩
theorem Down.apart (n : Down X pins a B sI σ H cls d s) (hf : X.env.frame = some X.env.locals) : a ≠ X.env.locals ∧ a ∉ X.fs := by
  obtain ⟨o, vs, ho, _, hd⟩ := n.obj
  have away : a ∉ frs (X.env :: X.outer) := fun m => by
    obtain ⟨_, o2, ho2, nd⟩ := n.fly.2.2.1.mem m
    obtain rfl : o = o2 := Option.some.inj (ho.symm.trans ho2)
    exact nd _ hd
  refine ⟨fun e => away ?_, fun m => away ?_⟩
  · exact List.mem_filterMap.mpr ⟨_, List.mem_cons_self, by rw [hf, e]⟩
  · obtain ⟨v, hv, ev⟩ := List.mem_filterMap.mp m
    exact List.mem_filterMap.mpr ⟨v, List.mem_cons_of_mem _ hv, ev⟩
end
end Z
set_option maxHeartbeats 4000000
namespace Z
open PySem PySem.Spec PyProof.Rows L2
section
variable {X : Cx}
/-- x == y by the own ==, whatever it tells -/
def rOwnB (C : Addr) (sp : Sp) (E : XK) : R2 := fun x y H Q => ∃ a b dx dy fs gs, x = .ref a ∧ y = .ref b ∧ H a = some (.ins C dx fs) ∧ H b = some (.ins C dy gs) ∧ sp [.ref a, .ref b] H (fun v H' => (∃ q, v = .bl q) ∧ Q v H') E
theorem op_ownEqB {k j : Nat} {C : Addr} {sp : Sp} {E : XK} (c : Met X.prog X.w X.K X.mg X.base k C "__eq__" sp []) (hr : Room j X.A) (hk : k ≤ j) (hx : Passes (L2N.CX X.prog X.w) X E) : OpR X (compareOp .Eq) (rOwnB C sp E) := by
  intro pi s0 sl H0 y z v u Q0 J ry rz h0
  obtain ⟨a, b, dy, dz, fs, gs, rfl, rfl, ea, eb, q⟩ := h0
  obtain rfl : v = Value.ref a := ry
  obtain rfl : u = Value.ref b := rz
  obtain ⟨f, fd, ps, ds, hc, hm, F, bd, d⟩ := c.ex
  obtain ⟨mA, O, _⟩ := ins_get J.hok ea
  obtain ⟨od, I0, _⟩ := O.look
  obtain ⟨m0, fr⟩ := J.fr
  show wpAny (model X.prog X.w) X.A (richCompare .Eq (.ref a) (.ref b)) (EP X pi sl Q0) X.xe s0
  refine PySem.W.cmp_K (op := .Eq) (tb := .ref C) hr.units0 fr J.ok.mod.kin I0 (ref_cls J eb) (by simp [PySem.W.notFirst]) hm.at_ hm.fn ?_
  cases d
  refine wpAny_mono (run_fn (us := [.ref a, .ref b]) (vs := [.ref a, .ref b]) F (hr.mono hk) bd .nil hx J (.cons rfl (.cons rfl .nil)) q) (fun r s1 hq => ?_) fun _ _ z => z
  obtain ⟨v1, H1, J1, rv, ⟨q1, e1⟩, q2⟩ := hq
  subst e1
  obtain rfl : r = Value.bool q1 := rv
  exact ⟨.bl q1, H1, J1, rfl, q2⟩
theorem z_ownB {C : Addr} {sp : Sp} {E : XK} {a b dx dy : Addr} {fs gs : List (Str × V)} {H : Hp} {Q : VK} (ha : H a = some (.ins C dx fs)) (hb : H b = some (.ins C dy gs)) (q : sp [.ref a, .ref b] H (fun v H' => (∃ q, v = .bl q) ∧ Q v H') E) : rOwnB C sp E (.ref a) (.ref b) H Q := ⟨a, b, dx, dy, fs, gs, rfl, rfl, ha, hb, q⟩
end
abbrev F7 := V → V → V → V → V → V → V → Hp → VK → XK → Prop
def sp7 (f : F7) : Sp := fun vs H Q E => ∃ a b c d e g h, vs = [a, b, c, d, e, g, h] ∧ f a b c d e g h H Q E
theorem len7 {f : F7} : ∀ vs H Q E, sp7 f vs H Q E → vs.length = 7 := by
  rintro _ _ _ _ ⟨_, _, _, _, _, _, _, rfl, _⟩
  rfl
end Z
set_option maxHeartbeats 4000000
namespace S31
/-- the number at a place -/
def cf (xs : List Int) (k : Nat) : Int := xs.getD k 0
def tp (f : Nat → Int) : Nat → Int := fun k => (if k = 0 then 0 else f (k - 1)) + f k
def tpn (f : Nat → Int) : Nat → Nat → Int
  | 0 => f
  | n + 1 => tp (tpn f n)
theorem cf_nil {k : Nat} : cf [] k = 0 := by simp [cf]
theorem cf_out {xs : List Int} {k : Nat} (h : xs.length ≤ k) : cf xs k = 0 := by simp [cf, List.getD_eq_getElem?_getD, h]
theorem cf_in {xs : List Int} {k : Nat} (h : k < xs.length) : cf xs k = xs[k] := by simp [cf, List.getD_eq_getElem?_getD, h]
theorem cf_map {xs : List Int} {g : Int → Int} {k : Nat} (g0 : g 0 = 0) : cf (xs.map g) k = g (cf xs k) := by
  by_cases h : k < xs.length
  · rw [cf_in h, cf_in (by simpa using h), List.getElem_map]
  · rw [cf_out (xs := xs) (by omega), cf_out (by rw [List.length_map]; omega), g0]
/-- the common divisor -/
def gl (c : Int) (ns : List Int) : Int := ns.foldl (fun c n => ((Int.gcd c n : Nat) : Int)) c
theorem gl_snoc {c n : Int} {ns : List Int} : gl c (ns ++ [n]) = ((Int.gcd (gl c ns) n : Nat) : Int) := by simp [gl]
theorem gl_pos {c : Int} (hc : 0 < c) : ∀ ns : List Int, 0 < gl c ns ∧ gl c ns ≤ c ∧ gl c ns ∣ c ∧ ∀ n ∈ ns, gl c ns ∣ n := by
  intro ns
  induction ns generalizing c with
  | nil => exact ⟨hc, Int.le_refl _, Int.dvd_refl _, fun n h => by cases h⟩
  | cons x xs ih =>
    have g0 : 0 < ((Int.gcd c x : Nat) : Int) := by
      have := Int.gcd_pos_of_ne_zero_left x (show c ≠ 0 by omega)
      omega
    obtain ⟨i1, i2, i3, i4⟩ := ih g0
    have d1 : ((Int.gcd c x : Nat) : Int) ∣ c := Int.gcd_dvd_left ..
    have d2 : ((Int.gcd c x : Nat) : Int) ∣ x := Int.gcd_dvd_right ..
    have le := Int.le_of_dvd hc d1
    refine ⟨i1, Int.le_trans i2 le, Int.dvd_trans i3 d1, fun n h => ?_⟩
    rcases List.mem_cons.mp h with rfl | h
    · exact Int.dvd_trans i3 d2
    · exact i4 n h
end S31
set_option maxHeartbeats 4000000
namespace S31
def cv (f g : Nat → Int) (m : Nat) : Nat → Int
  | 0 => 0
  | J + 1 => cv f g m J + (if J ≤ m then f J * g (m - J) else 0)
/-- the value at x of the first N places -/
def E (f : Nat → Int) (x : Rat) : Nat → Rat
  | 0 => 0
  | N + 1 => E f x N + (f N : Rat) * x ^ N
def sh (f : Nat → Int) : Nat → Int := fun k => if k = 0 then 0 else f (k - 1)
def pb : Nat → Nat → Int := tpn fun k => if k = 0 then 1 else 0
theorem pb_succ {N k : Nat} : pb (N + 1) k = (if k = 0 then 0 else pb N (k - 1)) + pb N k := rfl
theorem pb_nonneg : ∀ N k, 0 ≤ pb N k
  | 0, k => by
    show 0 ≤ (if k = 0 then (1 : Int) else 0)
    split <;> decide
  | N + 1, k => by
    rw [pb_succ]
    have h1 := pb_nonneg N k
    have h2 := pb_nonneg N (k - 1)
    split <;> omega
theorem pb_pos : ∀ N k, k ≤ N → 0 < pb N k
  | 0, k, h => by
    have : k = 0 := by omega
    subst this
    decide
  | N + 1, k, h => by
    rw [pb_succ]
    by_cases c : k ≤ N
    · have h1 := pb_pos N k c
      have h2 := pb_nonneg N (k - 1)
      split <;> omega
    · have e : k = N + 1 := by omega
      subst e
      rw [if_neg (by omega), Nat.add_sub_cancel]
      have h1 := pb_pos N N (Nat.le_refl _)
      have h2 := pb_nonneg N (N + 1)
      omega
theorem pb_out : ∀ N k, N < k → pb N k = 0
  | 0, k, h => if_neg (by omega)
  | N + 1, k, h => by
    rw [pb_succ, if_neg (by omega), pb_out N k (by omega), pb_out N (k - 1) (by omega)]
    rfl
def ee (m N k : Int) : Int := m * N * (N - 1) - 4 * (m - 1) * k * (N - k)
end S31
set_option maxHeartbeats 4000000
namespace S30
abbrev Sq := Nat → Rat
def sft (c : Sq) : Sq := fun k => c (k + 1)
/-- sum of pb i k * c k: the i-th row of the sums of neighbours -/
def T : Nat → Sq → Rat
  | 0, c => c 0
  | i + 1, c => T i c + T i (sft c)
/-- sum of pb d k * c k * u^k * v^(d-k) -/
def G (u v : Rat) : Nat → Sq → Rat
  | 0, c => c 0
  | d + 1, c => v * G u v d c + u * G u v d (sft c)
/-- the corner numbers -/
def be (c : Sq) : Sq := fun i => T i c
/-- the value at x of the first N numbers -/
def E (f : Sq) (x : Rat) : Nat → Rat
  | 0 => 0
  | N + 1 => E f x N + f N * x ^ N
def ab (q : Rat) : Rat := if 0 ≤ q then q else -q
end S30
set_option maxHeartbeats 4000000
namespace S30
open S31 (pb pb_succ pb_out pb_pos)
def rv (d : Nat) (c : Sq) : Sq := fun k => c (d - k)
/-- the numbers a with values A: divided by Pascal's row -/
def dv (d : Nat) (a : Sq) : Sq := fun k => a k / (pb d k : Rat)
/-- the corner numbers of the polynomial with the numbers a -/
def cn (d : Nat) (a : Sq) : Sq := be (dv d a)
end S30
set_option maxHeartbeats 4000000
namespace S30
open S31 (pb pb_succ pb_out pb_pos cf)
end S30
set_option maxHeartbeats 4000000
namespace S30
open S31 (cf cf_in cf_out cf_map gl gl_pos)
/-- a common factor and zeros at the end left out -/
structure LowT (ns : List Int) (o : Int) (ls : List Int) (o' : Int) : Prop where
  len : ls.length ≤ ns.length
  ex : ∃ c : Int, 0 < c ∧ (∀ k, cf ns k = c * cf ls k) ∧ o = c * o'
  top : ∀ n, ls.length = n + 1 → cf ls n ≠ 0
  cop : ∀ d : Int, d ∣ o' → (∀ k, d ∣ cf ls k) → d ∣ 1
theorem LowT.pos {ns ls : List Int} {o o' : Int} (h : LowT ns o ls o') (ho : 0 < o) : 0 < o' := by
  obtain ⟨c, c0, _, e⟩ := h.ex
  rw [e] at ho
  by_cases q : 0 < o'
  · exact q
  · have : c * o' ≤ 0 := Int.mul_nonpos_of_nonneg_of_nonpos (by omega) (by omega)
    omega
theorem ne_cast {i : Int} (h : i ≠ 0) : (i : Rat) ≠ 0 := fun q => h (by exact_mod_cast q)
theorem LowT.nil {ns ls : List Int} {o o' : Int} (h : LowT ns o ls o') (hn : ns.length = 0) : ls = [] := List.eq_nil_of_length_eq_zero (by have := h.len; omega)
theorem LowT.abs {ns ls : List Int} {o o' : Int} (h : LowT ns o ls o') (k : Nat) : (cf ls k).natAbs ≤ (cf ns k).natAbs := by
  obtain ⟨c, c0, e1, e2⟩ := h.ex
  rw [e1, Int.natAbs_mul]
  exact Nat.le_mul_of_pos_left _ (by omega)
theorem LowT.over {ns ls : List Int} {o o' : Int} (h : LowT ns o ls o') : o'.natAbs ≤ o.natAbs := by
  obtain ⟨c, c0, e1, e2⟩ := h.ex
  rw [e2, Int.natAbs_mul]
  exact Nat.le_mul_of_pos_left _ (by omega)
theorem lowt_nil {ns : List Int} {o : Int} (ho : 0 < o) (hz : ∀ k, cf ns k = 0) : LowT ns o [] 1 :=
  ⟨Nat.zero_le _, ⟨o, ho, fun k => by rw [hz, S31.cf_nil, Int.mul_zero], (Int.mul_one o).symm⟩, fun n h => (by cases h), fun d h _ => h⟩
theorem gl_great {d : Int} : ∀ {ns : List Int} {c : Int}, d ∣ c → (∀ n ∈ ns, d ∣ n) → d ∣ gl c ns
  | [], c, h, _ => h
  | n :: ns, c, h, q => gl_great (ns := ns) (c := ((Int.gcd c n : Nat) : Int)) (Int.dvd_coe_gcd h (q n (by simp))) fun m hm => q m (by simp [hm])
theorem lowt_of {ns : List Int} {s : Nat} {o : Int} (ho : 0 < o) (hs : s + 1 ≤ ns.length) (hz : ∀ k, s + 1 ≤ k → cf ns k = 0) (ht : cf ns s ≠ 0) :
    LowT ns o ((ns.take (s + 1)).map fun n => n / gl o (ns.take (s + 1))) (o / gl o (ns.take (s + 1))) := by
  obtain ⟨g0, _, g1, gd⟩ := gl_pos ho (ns.take (s + 1))
  have e1 : ∀ k, cf ns k = gl o (ns.take (s + 1)) * cf ((ns.take (s + 1)).map fun n => n / gl o (ns.take (s + 1))) k := by
    intro k
    by_cases h : k < s + 1
    · have h1 : k < ns.length := by omega
      have h2 : k < (ns.take (s + 1)).length := by simp; omega
      rw [cf_map (g := fun n => n / gl o (ns.take (s + 1))) (Int.zero_ediv _), cf_in h1, cf_in h2, List.getElem_take]
      have : gl o (ns.take (s + 1)) ∣ ns[k] := gd _ (by
        have := List.getElem_mem h2
        rwa [List.getElem_take] at this)
      rw [Int.mul_comm, Int.ediv_mul_cancel this]
    · rw [hz k (by omega), cf_out (by simp; omega), Int.mul_zero]
  refine ⟨by simp; omega, ⟨_, g0, e1, by rw [Int.mul_comm, Int.ediv_mul_cancel g1]⟩, fun n hn q => ?_, fun d d1 d2 => ?_⟩
  · have hl : ((ns.take (s + 1)).map fun n => n / gl o (ns.take (s + 1))).length = s + 1 := by simp; omega
    have : n = s := by omega
    subst this
    exact ht (by rw [e1, q, Int.mul_zero])
  · have q : d * gl o (ns.take (s + 1)) ∣ gl o (ns.take (s + 1)) := by
      refine gl_great ?_ fun n hn => ?_
      · have := Int.mul_dvd_mul_right (gl o (ns.take (s + 1))) d1
        rwa [Int.ediv_mul_cancel g1] at this
      · obtain ⟨k, hk, rfl⟩ := List.getElem_of_mem hn
        have := Int.mul_dvd_mul_right (gl o (ns.take (s + 1))) (d2 k)
        rw [cf_map (g := fun n => n / gl o (ns.take (s + 1))) (Int.zero_ediv _), cf_in hk, Int.ediv_mul_cancel (gd _ hn)] at this
        exact this
    obtain ⟨e, he⟩ := q
    refine ⟨e, ?_⟩
    have : gl o (ns.take (s + 1)) * 1 = gl o (ns.take (s + 1)) * (d * e) := by
      rw [Int.mul_one]
      exact he.trans (by rw [Int.mul_comm d, Int.mul_assoc])
    exact Int.eq_of_mul_eq_mul_left (by omega) this
theorem gl_bits {o : Int} {ns : List Int} (ho : 0 < o) : (gl o ns).natAbs ≤ o.natAbs := by
  obtain ⟨g0, g1, _⟩ := gl_pos ho ns
  omega
end S30
set_option maxHeartbeats 4000000
namespace S66
/-- the value at k -/
def qv (a b c k : Int) : Int := a + k * (b + k * c)
end S66
set_option maxHeartbeats 4000000
namespace S66
end S66
set_option maxHeartbeats 4000000
namespace S66
def rv (a b c x : Rat) : Rat := a + x * (b + x * c)
/-- the discriminant's test -/
def NB (a b c : Rat) : Prop := (c = 0 ∧ b = 0 ∧ 0 ≤ a) ∨ (0 < c ∧ b * b ≤ 4 * c * a)
theorem rv_id (a b c x : Rat) : 4 * c * rv a b c x = (2 * c * x + b) * (2 * c * x + b) - (b * b - 4 * c * a) := by
  unfold rv
  grind
theorem sq_nn (x : Rat) : 0 ≤ x * x := by
  rcases Rat.le_total (a := 0) (b := x) with h | h
  · exact Rat.mul_nonneg h h
  · have := Rat.mul_nonneg (show 0 ≤ -x by grind) (show 0 ≤ -x by grind)
    grind
theorem half_at {c t b : Rat} (c0 : c ≠ 0) : 2 * c * ((t - b) / (2 * c)) + b = t := by
  grind
theorem more_sq (D : Rat) : 0 < (D * D + 1) * (D * D + 1) - D := by
  have s := sq_nn D
  have s2 := sq_nn (D * D)
  have s5 := sq_nn (D - 1 / 2)
  grind
theorem nb_iff {a b c : Rat} : NB a b c ↔ ∀ x, 0 ≤ rv a b c x := by
  constructor
  · rintro (⟨h1, h2, h3⟩ | ⟨h1, h2⟩) x
    · unfold rv
      rw [h1, h2]
      grind
    · have e := rv_id a b c x
      have s := sq_nn (2 * c * x + b)
      refine Rat.not_lt.mp fun z => ?_
      have := Rat.mul_pos (show 0 < 4 * c by grind) (show 0 < -rv a b c x by grind)
      grind
  · intro h
    by_cases c0 : c = 0
    · by_cases b0 : b = 0
      · refine .inl ⟨c0, b0, ?_⟩
        have := h 0
        unfold rv at this
        grind
      · exfalso
        have := h (-(a + 1) / b)
        unfold rv at this
        rw [c0] at this
        have e : -(a + 1) / b * b = -(a + 1) := by grind
        grind
    · by_cases cp : 0 < c
      · refine .inr ⟨cp, ?_⟩
        have e := rv_id a b c (-b / (2 * c))
        have e2 : 2 * c * (-b / (2 * c)) + b = 0 := by grind
        rw [e2] at e
        have := Rat.mul_nonneg (show 0 ≤ 4 * c by grind) (h (-b / (2 * c)))
        grind
      · exfalso
        have cn : 0 < -c := by grind
        have c1 : c ≠ 0 := c0
        have key : ∀ D : Rat, D = b * b - 4 * c * a → False := fun D hD => by
          have e := rv_id a b c ((D * D + 1 - b) / (2 * c))
          have p := h ((D * D + 1 - b) / (2 * c))
          have e2 := half_at (c := c) (t := D * D + 1) (b := b) c1
          generalize (D * D + 1 - b) / (2 * c) = x at *
          rw [e2, ← hD] at e
          have q := Rat.mul_nonneg (show 0 ≤ 4 * -c by grind) p
          have m := more_sq D
          have e3 : 4 * -c * rv a b c x = -(4 * c * rv a b c x) := by grind
          rw [e3, e] at q
          grind
        exact key _ rfl
end S66
set_option maxHeartbeats 4000000
namespace S66
theorem nn_of {p q : Rat} (hp : 0 < p) (h : 0 ≤ p * q) : 0 ≤ q := by
  refine Rat.not_lt.mp fun z => ?_
  have := Rat.mul_pos hp (show 0 < -q by grind)
  grind
end S66
set_option maxHeartbeats 4000000
namespace S66
theorem rv_int (a b c k : Int) : rv (a : Rat) (b : Rat) (c : Rat) (k : Rat) = ((qv a b c k : Int) : Rat) := by
  unfold rv qv
  rw [Rat.intCast_add, Rat.intCast_mul, Rat.intCast_add, Rat.intCast_mul]
end S66
set_option maxHeartbeats 4000000
namespace S66
theorem c_lt {i j : Int} : (i : Rat) < (j : Rat) ↔ i < j := Rat.intCast_lt_intCast
theorem c_le {i j : Int} : (i : Rat) ≤ (j : Rat) ↔ i ≤ j := Rat.intCast_le_intCast
theorem rv0 {a b c k : Int} : 0 ≤ rv (a : Rat) b c k ↔ 0 ≤ qv a b c k := by
  rw [rv_int, ← c_le]
  rfl
end S66
set_option maxHeartbeats 4000000
namespace S66
/-- quotients by one number -/
theorem rv_over {a b c : Int} {w : Rat} (hw : 0 < w) (x : Rat) : 0 ≤ rv ((a : Rat) / w) ((b : Rat) / w) ((c : Rat) / w) x ↔ 0 ≤ rv (a : Rat) b c x := by
  have e : rv (a : Rat) b c x = w * rv ((a : Rat) / w) ((b : Rat) / w) ((c : Rat) / w) x := by
    unfold rv
    grind
  rw [e]
  exact ⟨fun h => Rat.mul_nonneg (Rat.le_of_lt hw) h, fun h => nn_of hw h⟩
end S66
set_option maxHeartbeats 4000000
set_option maxHeartbeats 4000000
set_option maxHeartbeats 0
namespace T
open PySem PySem.Spec PyProof.Rows L2 Z
theorem sc_OutOfBoundsD_initD : FnScope (["self", "value"] : List Str) (["self", "value"] : List Str) (defScope s_OutOfBoundsD_initD) := ⟨rfl, rfl, rfl, by decide +kernel, rfl, by decide +kernel, by decide +kernel⟩
theorem sc_check_number : FnScope (["value", "low", "high"] : List Str) (["value", "low", "high"] : List Str) (defScope s_check_number) := ⟨rfl, rfl, rfl, by decide +kernel, rfl, by decide +kernel, by decide +kernel⟩
theorem sc_BadSizeD_initD : FnScope (["self", "size"] : List Str) (["self", "size"] : List Str) (defScope s_BadSizeD_initD) := ⟨rfl, rfl, rfl, by decide +kernel, rfl, by decide +kernel, by decide +kernel⟩
theorem sc_check_size : FnScope (["things", "low", "high", "size"] : List Str) (["things", "low", "high"] : List Str) (defScope s_check_size) := ⟨rfl, rfl, rfl, by decide +kernel, rfl, by decide +kernel, by decide +kernel⟩
theorem sc_lowest_terms : FnScope (["numbers", "over", "size", "common", "number"] : List Str) (["numbers", "over"] : List Str) (defScope s_lowest_terms) := ⟨rfl, rfl, rfl, by decide +kernel, rfl, by decide +kernel, by decide +kernel⟩
theorem sc_PolyD_initD : FnScope (["self", "numbers", "over"] : List Str) (["self", "numbers", "over"] : List Str) (defScope s_PolyD_initD) := ⟨rfl, rfl, rfl, by decide +kernel, rfl, by decide +kernel, by decide +kernel⟩
theorem sc_quadratic_of : FnScope (["numbers", "over", "number"] : List Str) (["numbers"] : List Str) (defScope s_quadratic_of) := ⟨rfl, rfl, rfl, by decide +kernel, rfl, by decide +kernel, by decide +kernel⟩
theorem sc_SixClaim_quadratic : FnScope (["self"] : List Str) (["self"] : List Str) (defScope s_SixClaim_quadratic) := ⟨rfl, rfl, rfl, by decide +kernel, rfl, by decide +kernel, by decide +kernel⟩
theorem sc_whole_three : FnScope (["q"] : List Str) (["q"] : List Str) (defScope s_whole_three) := ⟨rfl, rfl, rfl, by decide +kernel, rfl, by decide +kernel, by decide +kernel⟩
theorem sc_first_below : FnScope (["q", "letters", "free", "middle", "front", "k"] : List Str) (["q", "letters"] : List Str) (defScope s_first_below) := ⟨rfl, rfl, rfl, by decide +kernel, rfl, by decide +kernel, by decide +kernel⟩
theorem sc_SixClaim_holds : FnScope (["self"] : List Str) (["self"] : List Str) (defScope s_SixClaim_holds) := ⟨rfl, rfl, rfl, by decide +kernel, rfl, by decide +kernel, by decide +kernel⟩
theorem sc_PolyD_eqD : FnScope (["self", "other"] : List Str) (["self", "other"] : List Str) (defScope s_PolyD_eqD) := ⟨rfl, rfl, rfl, by decide +kernel, rfl, by decide +kernel, by decide +kernel⟩
theorem sc_SixPaper_is_squares : FnScope (["self"] : List Str) (["self"] : List Str) (defScope s_SixPaper_is_squares) := ⟨rfl, rfl, rfl, by decide +kernel, rfl, by decide +kernel, by decide +kernel⟩
theorem sc_RatioD_initD : FnScope (["self", "top", "bottom", "common"] : List Str) (["self", "top", "bottom"] : List Str) (defScope s_RatioD_initD) := ⟨rfl, rfl, rfl, by decide +kernel, rfl, by decide +kernel, by decide +kernel⟩
theorem sc_SixClaimD_initD : FnScope (["self", "letters", "numbers"] : List Str) (["self", "letters", "numbers"] : List Str) (defScope s_SixClaimD_initD) := ⟨rfl, rfl, rfl, by decide +kernel, rfl, by decide +kernel, by decide +kernel⟩
theorem sc_law_claim : FnScope (["n", "q", "i"] : List Str) (["n", "q"] : List Str) (defScope s_law_claim) := ⟨rfl, rfl, rfl, by decide +kernel, rfl, by decide +kernel, by decide +kernel⟩
theorem sc_law_flag : FnScope (["x", "due"] : List Str) (["x", "due"] : List Str) (defScope s_law_flag) := ⟨rfl, rfl, rfl, by decide +kernel, rfl, by decide +kernel, by decide +kernel⟩
theorem sc_law_whole : FnScope (["x"] : List Str) (["x"] : List Str) (defScope s_law_whole) := ⟨rfl, rfl, rfl, by decide +kernel, rfl, by decide +kernel, by decide +kernel⟩
theorem sc_law_fraction : FnScope (["x"] : List Str) (["x"] : List Str) (defScope s_law_fraction) := ⟨rfl, rfl, rfl, by decide +kernel, rfl, by decide +kernel, by decide +kernel⟩
theorem sc_law_is : FnScope (["x", "top", "bottom"] : List Str) (["x", "top", "bottom"] : List Str) (defScope s_law_is) := ⟨rfl, rfl, rfl, by decide +kernel, rfl, by decide +kernel, by decide +kernel⟩
theorem sc_SixPaperD_initD : FnScope (["self", "block", "amount", "rest"] : List Str) (["self", "block", "amount", "rest"] : List Str) (defScope s_SixPaperD_initD) := ⟨rfl, rfl, rfl, by decide +kernel, rfl, by decide +kernel, by decide +kernel⟩
theorem sc_law_made : FnScope (["k", "part", "rest", "low"] : List Str) (["k", "part", "rest", "low"] : List Str) (defScope s_law_made) := ⟨rfl, rfl, rfl, by decide +kernel, rfl, by decide +kernel, by decide +kernel⟩
theorem sc_CutPaper_shows : FnScope (["self", "claim", "piece", "low", "high"] : List Str) (["self", "claim"] : List Str) (defScope s_CutPaper_shows) := ⟨rfl, rfl, rfl, by decide +kernel, rfl, by decide +kernel, by decide +kernel⟩
theorem sc_Poly_made : FnScope (["numbers", "over", "lowest", "poly"] : List Str) (["numbers", "over"] : List Str) (defScope s_Poly_made) := ⟨rfl, rfl, rfl, by decide +kernel, rfl, by decide +kernel, by decide +kernel⟩
theorem sc_poly_sum : FnScope (["p", "q", "sign", "over", "found", "k", "factor", "number"] : List Str) (["p", "q", "sign"] : List Str) (defScope s_poly_sum) := ⟨rfl, rfl, rfl, by decide +kernel, rfl, by decide +kernel, by decide +kernel⟩
theorem sc_PolyD_addD : FnScope (["self", "other"] : List Str) (["self", "other"] : List Str) (defScope s_PolyD_addD) := ⟨rfl, rfl, rfl, by decide +kernel, rfl, by decide +kernel, by decide +kernel⟩
theorem sc_Poly_scaled : FnScope (["self", "ratio", "number"] : List Str) (["self", "ratio"] : List Str) (defScope s_Poly_scaled) := ⟨rfl, rfl, rfl, by decide +kernel, rfl, by decide +kernel, by decide +kernel⟩
theorem sc_Ratio_sign : FnScope (["self"] : List Str) (["self"] : List Str) (defScope s_Ratio_sign) := ⟨rfl, rfl, rfl, by decide +kernel, rfl, by decide +kernel, by decide +kernel⟩
theorem sc_block_poly : FnScope (["block", "letters"] : List Str) (["block", "letters"] : List Str) (defScope s_block_poly) := ⟨rfl, rfl, rfl, by decide +kernel, rfl, by decide +kernel, by decide +kernel⟩
theorem sc_is_never_below : FnScope (["poly", "free", "middle", "front"] : List Str) (["poly"] : List Str) (defScope s_is_never_below) := ⟨rfl, rfl, rfl, by decide +kernel, rfl, by decide +kernel, by decide +kernel⟩
theorem sc_SixPaper_shows : FnScope (["self", "claim"] : List Str) (["self", "claim"] : List Str) (defScope s_SixPaper_shows) := ⟨rfl, rfl, rfl, by decide +kernel, rfl, by decide +kernel, by decide +kernel⟩
theorem sc_judge : FnScope (["claim", "answer"] : List Str) (["claim", "answer"] : List Str) (defScope s_judge) := ⟨rfl, rfl, rfl, by decide +kernel, rfl, by decide +kernel, by decide +kernel⟩
theorem sc_law_says : FnScope (["claim", "paper", "due"] : List Str) (["claim", "paper", "due"] : List Str) (defScope s_law_says) := ⟨rfl, rfl, rfl, by decide +kernel, rfl, by decide +kernel, by decide +kernel⟩
theorem sc_law_ask : FnScope (["n", "q", "k", "part", "rest", "low", "due", "claim", "paper"] : List Str) (["n", "q", "k", "part", "rest", "low", "due"] : List Str) (defScope s_law_ask) := ⟨rfl, rfl, rfl, by decide +kernel, rfl, by decide +kernel, by decide +kernel⟩
theorem sc_law_at : FnScope (["q", "k"] : List Str) (["q", "k"] : List Str) (defScope s_law_at) := ⟨rfl, rfl, rfl, by decide +kernel, rfl, by decide +kernel, by decide +kernel⟩
theorem sc_law_holds : FnScope (["n", "q", "k"] : List Str) (["n", "q"] : List Str) (defScope s_law_holds) := ⟨rfl, rfl, rfl, by decide +kernel, rfl, by decide +kernel, by decide +kernel⟩
theorem sc_law_block : FnScope (["n", "k"] : List Str) (["n", "k"] : List Str) (defScope s_law_block) := ⟨rfl, rfl, rfl, by decide +kernel, rfl, by decide +kernel, by decide +kernel⟩
theorem sc_law_sum : FnScope (["n", "k", "part", "rest", "low", "cut", "u", "b", "tops", "i"] : List Str) (["n", "k", "part", "rest", "low"] : List Str) (defScope s_law_sum) := ⟨rfl, rfl, rfl, by decide +kernel, rfl, by decide +kernel, by decide +kernel⟩
theorem sc_law_built : FnScope (["n", "k", "part", "rest", "low", "due", "truth", "q"] : List Str) (["n", "k", "part", "rest", "low", "due", "truth"] : List Str) (defScope s_law_built) := ⟨rfl, rfl, rfl, by decide +kernel, rfl, by decide +kernel, by decide +kernel⟩
theorem sc_law_bent_blocks : FnScope (["n", "k", "part", "rest", "low", "more", "block"] : List Str) (["n", "k", "part", "rest", "low"] : List Str) (defScope s_law_bent_blocks) := ⟨rfl, rfl, rfl, by decide +kernel, rfl, by decide +kernel, by decide +kernel⟩
theorem sc_law_bent_claims : FnScope (["n", "k", "part", "rest", "low", "fine", "step", "q", "i", "row", "x", "up", "other", "letters", "due"] : List Str) (["n", "k", "part", "rest", "low", "fine", "step"] : List Str) (defScope s_law_bent_claims) := ⟨rfl, rfl, rfl, by decide +kernel, rfl, by decide +kernel, by decide +kernel⟩
theorem sc_law_bent_parts : FnScope (["n", "k", "part", "rest", "low", "m", "more", "high", "w", "odd", "touch", "under", "slope", "hill", "some"] : List Str) (["n", "k", "part", "rest", "low", "m"] : List Str) (defScope s_law_bent_parts) := ⟨rfl, rfl, rfl, by decide +kernel, rfl, by decide +kernel, by decide +kernel⟩
theorem sc_law_cell : FnScope (["cells", "k"] : List Str) (["cells", "k"] : List Str) (defScope s_law_cell) := ⟨rfl, rfl, rfl, by decide +kernel, rfl, by decide +kernel, by decide +kernel⟩
theorem sc_law_draw : FnScope (["cells", "k", "step", "many"] : List Str) (["cells", "k", "step", "many"] : List Str) (defScope s_law_draw) := ⟨rfl, rfl, rfl, by decide +kernel, rfl, by decide +kernel, by decide +kernel⟩
theorem sc_law_letters : FnScope (["cells"] : List Str) (["cells"] : List Str) (defScope s_law_letters) := ⟨rfl, rfl, rfl, by decide +kernel, rfl, by decide +kernel, by decide +kernel⟩
theorem sc_law_long_rests : FnScope (["n", "k", "part", "rest", "low", "claim", "three", "four", "long", "paper"] : List Str) (["n", "k", "part", "rest", "low"] : List Str) (defScope s_law_long_rests) := ⟨rfl, rfl, rfl, by decide +kernel, rfl, by decide +kernel, by decide +kernel⟩
theorem sc_CrossedD_initD : FnScope (["self", "low", "high"] : List Str) (["self", "low", "high"] : List Str) (defScope s_CrossedD_initD) := ⟨rfl, rfl, rfl, by decide +kernel, rfl, by decide +kernel, by decide +kernel⟩
theorem sc_Ratio_compare : FnScope (["self", "other", "left", "right"] : List Str) (["self", "other"] : List Str) (defScope s_Ratio_compare) := ⟨rfl, rfl, rfl, by decide +kernel, rfl, by decide +kernel, by decide +kernel⟩
theorem sc_CutPaperD_initD : FnScope (["self", "side", "core", "cuts", "low", "high"] : List Str) (["self", "side", "core", "cuts"] : List Str) (defScope s_CutPaperD_initD) := ⟨rfl, rfl, rfl, by decide +kernel, rfl, by decide +kernel, by decide +kernel⟩
theorem sc_FourClaimD_initD : FnScope (["self", "letters", "numbers"] : List Str) (["self", "letters", "numbers"] : List Str) (defScope s_FourClaimD_initD) := ⟨rfl, rfl, rfl, by decide +kernel, rfl, by decide +kernel, by decide +kernel⟩
theorem sc_TooHighD_initD : FnScope (["self", "degree"] : List Str) (["self", "degree"] : List Str) (defScope s_TooHighD_initD) := ⟨rfl, rfl, rfl, by decide +kernel, rfl, by decide +kernel, by decide +kernel⟩
theorem sc_LineClaimD_initD : FnScope (["self", "poly", "piece"] : List Str) (["self", "poly", "piece"] : List Str) (defScope s_LineClaimD_initD) := ⟨rfl, rfl, rfl, by decide +kernel, rfl, by decide +kernel, by decide +kernel⟩
theorem sc_PieceD_initD : FnScope (["self", "low", "high"] : List Str) (["self", "low", "high"] : List Str) (defScope s_PieceD_initD) := ⟨rfl, rfl, rfl, by decide +kernel, rfl, by decide +kernel, by decide +kernel⟩
theorem sc_law_other_sorts : FnScope (["n", "k", "part", "rest", "low", "q", "claim", "paper", "poly", "line", "four", "turn"] : List Str) (["n", "k", "part", "rest", "low"] : List Str) (defScope s_law_other_sorts) := ⟨rfl, rfl, rfl, by decide +kernel, rfl, by decide +kernel, by decide +kernel⟩
theorem sc_law_refused : FnScope (["block", "e"] : List Str) (["block"] : List Str) (defScope s_law_refused) := ⟨rfl, rfl, rfl, by decide +kernel, rfl, by decide +kernel, by decide +kernel⟩
theorem sc_law : FnScope (["script", "cells", "n", "k", "part", "scale", "w", "s", "r", "v", "rest", "low", "m", "fine", "step"] : List Str) (["script"] : List Str) (defScope s_law) := ⟨rfl, rfl, rfl, by decide +kernel, rfl, by decide +kernel, by decide +kernel⟩
abbrev Lw (K : Frag) (mg : Str → Option Value) : Prop := LwB fb fn K mg
section
variable {K : Frag} {mg : Str → Option Value}
theorem Lw.g_Answer (L : Lw K mg) : mg "Answer" = some (.ref (He.ga K "Answer")) := by
  obtain ⟨h, X, G⟩ := L.at_
  exact He.glo_ok X G (L.c.fact 0 rfl)
theorem Lw.g_BadSize (L : Lw K mg) : mg "BadSize" = some (.ref (He.ga K "BadSize")) := by
  obtain ⟨h, X, G⟩ := L.at_
  exact He.glo_ok X G (L.c.fact 1 rfl)
theorem Lw.g_Crossed (L : Lw K mg) : mg "Crossed" = some (.ref (He.ga K "Crossed")) := by
  obtain ⟨h, X, G⟩ := L.at_
  exact He.glo_ok X G (L.c.fact 2 rfl)
theorem Lw.g_CutPaper (L : Lw K mg) : mg "CutPaper" = some (.ref (He.ga K "CutPaper")) := by
  obtain ⟨h, X, G⟩ := L.at_
  exact He.glo_ok X G (L.c.fact 3 rfl)
theorem Lw.g_FourClaim (L : Lw K mg) : mg "FourClaim" = some (.ref (He.ga K "FourClaim")) := by
  obtain ⟨h, X, G⟩ := L.at_
  exact He.glo_ok X G (L.c.fact 4 rfl)
theorem Lw.g_LineClaim (L : Lw K mg) : mg "LineClaim" = some (.ref (He.ga K "LineClaim")) := by
  obtain ⟨h, X, G⟩ := L.at_
  exact He.glo_ok X G (L.c.fact 5 rfl)
theorem Lw.g_NoughtError (L : Lw K mg) : mg "NoughtError" = some (.ref (He.ga K "NoughtError")) := by
  obtain ⟨h, X, G⟩ := L.at_
  exact He.glo_ok X G (L.c.fact 6 rfl)
theorem Lw.g_OutOfBounds (L : Lw K mg) : mg "OutOfBounds" = some (.ref (He.ga K "OutOfBounds")) := by
  obtain ⟨h, X, G⟩ := L.at_
  exact He.glo_ok X G (L.c.fact 7 rfl)
theorem Lw.g_Paper (L : Lw K mg) : mg "Paper" = some (.ref (He.ga K "Paper")) := by
  obtain ⟨h, X, G⟩ := L.at_
  exact He.glo_ok X G (L.c.fact 8 rfl)
theorem Lw.g_Piece (L : Lw K mg) : mg "Piece" = some (.ref (He.ga K "Piece")) := by
  obtain ⟨h, X, G⟩ := L.at_
  exact He.glo_ok X G (L.c.fact 9 rfl)
theorem Lw.g_Poly (L : Lw K mg) : mg "Poly" = some (.ref (He.ga K "Poly")) := by
  obtain ⟨h, X, G⟩ := L.at_
  exact He.glo_ok X G (L.c.fact 10 rfl)
theorem Lw.g_Ratio (L : Lw K mg) : mg "Ratio" = some (.ref (He.ga K "Ratio")) := by
  obtain ⟨h, X, G⟩ := L.at_
  exact He.glo_ok X G (L.c.fact 11 rfl)
theorem Lw.g_SixClaim (L : Lw K mg) : mg "SixClaim" = some (.ref (He.ga K "SixClaim")) := by
  obtain ⟨h, X, G⟩ := L.at_
  exact He.glo_ok X G (L.c.fact 12 rfl)
theorem Lw.g_SixPaper (L : Lw K mg) : mg "SixPaper" = some (.ref (He.ga K "SixPaper")) := by
  obtain ⟨h, X, G⟩ := L.at_
  exact He.glo_ok X G (L.c.fact 13 rfl)
theorem Lw.g_Spot (L : Lw K mg) : mg "Spot" = some (.ref (He.ga K "Spot")) := by
  obtain ⟨h, X, G⟩ := L.at_
  exact He.glo_ok X G (L.c.fact 14 rfl)
theorem Lw.g_TooHigh (L : Lw K mg) : mg "TooHigh" = some (.ref (He.ga K "TooHigh")) := by
  obtain ⟨h, X, G⟩ := L.at_
  exact He.glo_ok X G (L.c.fact 15 rfl)
theorem Lw.g_ZeroBottom (L : Lw K mg) : mg "ZeroBottom" = some (.ref (He.ga K "ZeroBottom")) := by
  obtain ⟨h, X, G⟩ := L.at_
  exact He.glo_ok X G (L.c.fact 16 rfl)
theorem Lw.g_law_ask (L : Lw K mg) : mg "_law_ask" = some (.ref (He.ga K "_law_ask")) := by
  obtain ⟨h, X, G⟩ := L.at_
  exact He.glo_ok X G (L.c.fact 17 rfl)
theorem Lw.g_law_at (L : Lw K mg) : mg "_law_at" = some (.ref (He.ga K "_law_at")) := by
  obtain ⟨h, X, G⟩ := L.at_
  exact He.glo_ok X G (L.c.fact 18 rfl)
theorem Lw.g_law_bent_blocks (L : Lw K mg) : mg "_law_bent_blocks" = some (.ref (He.ga K "_law_bent_blocks")) := by
  obtain ⟨h, X, G⟩ := L.at_
  exact He.glo_ok X G (L.c.fact 19 rfl)
theorem Lw.g_law_bent_claims (L : Lw K mg) : mg "_law_bent_claims" = some (.ref (He.ga K "_law_bent_claims")) := by
  obtain ⟨h, X, G⟩ := L.at_
  exact He.glo_ok X G (L.c.fact 20 rfl)
theorem Lw.g_law_bent_parts (L : Lw K mg) : mg "_law_bent_parts" = some (.ref (He.ga K "_law_bent_parts")) := by
  obtain ⟨h, X, G⟩ := L.at_
  exact He.glo_ok X G (L.c.fact 21 rfl)
theorem Lw.g_law_block (L : Lw K mg) : mg "_law_block" = some (.ref (He.ga K "_law_block")) := by
  obtain ⟨h, X, G⟩ := L.at_
  exact He.glo_ok X G (L.c.fact 22 rfl)
theorem Lw.g_law_built (L : Lw K mg) : mg "_law_built" = some (.ref (He.ga K "_law_built")) := by
  obtain ⟨h, X, G⟩ := L.at_
  exact He.glo_ok X G (L.c.fact 23 rfl)
theorem Lw.g_law_cell (L : Lw K mg) : mg "_law_cell" = some (.ref (He.ga K "_law_cell")) := by
  obtain ⟨h, X, G⟩ := L.at_
  exact He.glo_ok X G (L.c.fact 24 rfl)
theorem Lw.g_law_claim (L : Lw K mg) : mg "_law_claim" = some (.ref (He.ga K "_law_claim")) := by
  obtain ⟨h, X, G⟩ := L.at_
  exact He.glo_ok X G (L.c.fact 25 rfl)
theorem Lw.g_law_draw (L : Lw K mg) : mg "_law_draw" = some (.ref (He.ga K "_law_draw")) := by
  obtain ⟨h, X, G⟩ := L.at_
  exact He.glo_ok X G (L.c.fact 26 rfl)
theorem Lw.g_law_flag (L : Lw K mg) : mg "_law_flag" = some (.ref (He.ga K "_law_flag")) := by
  obtain ⟨h, X, G⟩ := L.at_
  exact He.glo_ok X G (L.c.fact 27 rfl)
theorem Lw.g_law_fraction (L : Lw K mg) : mg "_law_fraction" = some (.ref (He.ga K "_law_fraction")) := by
  obtain ⟨h, X, G⟩ := L.at_
  exact He.glo_ok X G (L.c.fact 28 rfl)
theorem Lw.g_law_holds (L : Lw K mg) : mg "_law_holds" = some (.ref (He.ga K "_law_holds")) := by
  obtain ⟨h, X, G⟩ := L.at_
  exact He.glo_ok X G (L.c.fact 29 rfl)
theorem Lw.g_law_is (L : Lw K mg) : mg "_law_is" = some (.ref (He.ga K "_law_is")) := by
  obtain ⟨h, X, G⟩ := L.at_
  exact He.glo_ok X G (L.c.fact 30 rfl)
theorem Lw.g_law_letters (L : Lw K mg) : mg "_law_letters" = some (.ref (He.ga K "_law_letters")) := by
  obtain ⟨h, X, G⟩ := L.at_
  exact He.glo_ok X G (L.c.fact 31 rfl)
theorem Lw.g_law_long_rests (L : Lw K mg) : mg "_law_long_rests" = some (.ref (He.ga K "_law_long_rests")) := by
  obtain ⟨h, X, G⟩ := L.at_
  exact He.glo_ok X G (L.c.fact 32 rfl)
theorem Lw.g_law_made (L : Lw K mg) : mg "_law_made" = some (.ref (He.ga K "_law_made")) := by
  obtain ⟨h, X, G⟩ := L.at_
  exact He.glo_ok X G (L.c.fact 33 rfl)
theorem Lw.g_law_other_sorts (L : Lw K mg) : mg "_law_other_sorts" = some (.ref (He.ga K "_law_other_sorts")) := by
  obtain ⟨h, X, G⟩ := L.at_
  exact He.glo_ok X G (L.c.fact 34 rfl)
theorem Lw.g_law_refused (L : Lw K mg) : mg "_law_refused" = some (.ref (He.ga K "_law_refused")) := by
  obtain ⟨h, X, G⟩ := L.at_
  exact He.glo_ok X G (L.c.fact 35 rfl)
theorem Lw.g_law_says (L : Lw K mg) : mg "_law_says" = some (.ref (He.ga K "_law_says")) := by
  obtain ⟨h, X, G⟩ := L.at_
  exact He.glo_ok X G (L.c.fact 36 rfl)
theorem Lw.g_law_sum (L : Lw K mg) : mg "_law_sum" = some (.ref (He.ga K "_law_sum")) := by
  obtain ⟨h, X, G⟩ := L.at_
  exact He.glo_ok X G (L.c.fact 37 rfl)
theorem Lw.g_law_whole (L : Lw K mg) : mg "_law_whole" = some (.ref (He.ga K "_law_whole")) := by
  obtain ⟨h, X, G⟩ := L.at_
  exact He.glo_ok X G (L.c.fact 38 rfl)
theorem Lw.g_block_poly (L : Lw K mg) : mg "block_poly" = some (.ref (He.ga K "block_poly")) := by
  obtain ⟨h, X, G⟩ := L.at_
  exact He.glo_ok X G (L.c.fact 40 rfl)
theorem Lw.g_check_number (L : Lw K mg) : mg "check_number" = some (.ref (He.ga K "check_number")) := by
  obtain ⟨h, X, G⟩ := L.at_
  exact He.glo_ok X G (L.c.fact 42 rfl)
theorem Lw.g_check_size (L : Lw K mg) : mg "check_size" = some (.ref (He.ga K "check_size")) := by
  obtain ⟨h, X, G⟩ := L.at_
  exact He.glo_ok X G (L.c.fact 43 rfl)
theorem Lw.g_first_below (L : Lw K mg) : mg "first_below" = some (.ref (He.ga K "first_below")) := by
  obtain ⟨h, X, G⟩ := L.at_
  exact He.glo_ok X G (L.c.fact 44 rfl)
theorem Lw.g_is_never_below (L : Lw K mg) : mg "is_never_below" = some (.ref (He.ga K "is_never_below")) := by
  obtain ⟨h, X, G⟩ := L.at_
  exact He.glo_ok X G (L.c.fact 45 rfl)
theorem Lw.g_judge (L : Lw K mg) : mg "judge" = some (.ref (He.ga K "judge")) := by
  obtain ⟨h, X, G⟩ := L.at_
  exact He.glo_ok X G (L.c.fact 46 rfl)
theorem Lw.g_law (L : Lw K mg) : mg "law" = some (.ref (He.ga K "law")) := by
  obtain ⟨h, X, G⟩ := L.at_
  exact He.glo_ok X G (L.c.fact 47 rfl)
theorem Lw.g_lowest_terms (L : Lw K mg) : mg "lowest_terms" = some (.ref (He.ga K "lowest_terms")) := by
  obtain ⟨h, X, G⟩ := L.at_
  exact He.glo_ok X G (L.c.fact 48 rfl)
theorem Lw.g_poly_sum (L : Lw K mg) : mg "poly_sum" = some (.ref (He.ga K "poly_sum")) := by
  obtain ⟨h, X, G⟩ := L.at_
  exact He.glo_ok X G (L.c.fact 50 rfl)
theorem Lw.g_quadratic_of (L : Lw K mg) : mg "quadratic_of" = some (.ref (He.ga K "quadratic_of")) := by
  obtain ⟨h, X, G⟩ := L.at_
  exact He.glo_ok X G (L.c.fact 51 rfl)
theorem Lw.g_whole_three (L : Lw K mg) : mg "whole_three" = some (.ref (He.ga K "whole_three")) := by
  obtain ⟨h, X, G⟩ := L.at_
  exact He.glo_ok X G (L.c.fact 53 rfl)
theorem Lw.f_abs (L : Lw K mg) : mg "abs" = none := by
  obtain ⟨h, X, G⟩ := L.at_
  exact He.free_ok X G (L.c.fact 54 rfl)
theorem Lw.f_all (L : Lw K mg) : mg "all" = none := by
  obtain ⟨h, X, G⟩ := L.at_
  exact He.free_ok X G (L.c.fact 55 rfl)
theorem Lw.f_bool (L : Lw K mg) : mg "bool" = none := by
  obtain ⟨h, X, G⟩ := L.at_
  exact He.free_ok X G (L.c.fact 56 rfl)
theorem Lw.f_enumerate (L : Lw K mg) : mg "enumerate" = none := by
  obtain ⟨h, X, G⟩ := L.at_
  exact He.free_ok X G (L.c.fact 57 rfl)
theorem Lw.v_gcd (L : Lw K mg) : mg "gcd" = some (.builtin "math.gcd") := by
  obtain ⟨h, X, G⟩ := L.at_
  exact PySem.W.mg_of X G (He.eqO_ok (L.c.fact 58 rfl))
theorem Lw.f_int (L : Lw K mg) : mg "int" = none := by
  obtain ⟨h, X, G⟩ := L.at_
  exact He.free_ok X G (L.c.fact 59 rfl)
theorem Lw.f_isinstance (L : Lw K mg) : mg "isinstance" = none := by
  obtain ⟨h, X, G⟩ := L.at_
  exact He.free_ok X G (L.c.fact 60 rfl)
theorem Lw.v_lcm (L : Lw K mg) : mg "lcm" = some (.builtin "math.lcm") := by
  obtain ⟨h, X, G⟩ := L.at_
  exact PySem.W.mg_of X G (He.eqO_ok (L.c.fact 61 rfl))
theorem Lw.f_len (L : Lw K mg) : mg "len" = none := by
  obtain ⟨h, X, G⟩ := L.at_
  exact He.free_ok X G (L.c.fact 62 rfl)
theorem Lw.f_list (L : Lw K mg) : mg "list" = none := by
  obtain ⟨h, X, G⟩ := L.at_
  exact He.free_ok X G (L.c.fact 63 rfl)
theorem Lw.f_max (L : Lw K mg) : mg "max" = none := by
  obtain ⟨h, X, G⟩ := L.at_
  exact He.free_ok X G (L.c.fact 64 rfl)
theorem Lw.f_min (L : Lw K mg) : mg "min" = none := by
  obtain ⟨h, X, G⟩ := L.at_
  exact He.free_ok X G (L.c.fact 65 rfl)
theorem Lw.f_range (L : Lw K mg) : mg "range" = none := by
  obtain ⟨h, X, G⟩ := L.at_
  exact He.free_ok X G (L.c.fact 67 rfl)
theorem Lw.f_tuple (L : Lw K mg) : mg "tuple" = none := by
  obtain ⟨h, X, G⟩ := L.at_
  exact He.free_ok X G (L.c.fact 69 rfl)
theorem Lw.f_zip (L : Lw K mg) : mg "zip" = none := by
  obtain ⟨h, X, G⟩ := L.at_
  exact He.free_ok X G (L.c.fact 70 rfl)
theorem Lw.cl_Ratio (L : Lw K mg) : Cls K (He.ga K "Ratio") := He.cls_ok (L.c.fact 71 rfl)
theorem Lw.in_Ratio (L : Lw K mg) : InsK K (He.ga K "Ratio") := insK_ok (L.c.fact 72 rfl)
theorem Lw.mk_Ratio (L : Lw K mg) : Mk K (He.ga K "Ratio") (He.ma K (He.ga K "Ratio") "__init__") := He.mkr_ok (L.c.fact 73 rfl)
theorem Lw.na_Ratio_bottom (L : Lw K mg) : NoAttr K (He.ga K "Ratio") "bottom" := He.noat_ok (L.c.fact 75 rfl)
theorem Lw.na_Ratio_top (L : Lw K mg) : NoAttr K (He.ga K "Ratio") "top" := He.noat_ok (L.c.fact 76 rfl)
theorem Lw.me_Ratio_sign (L : Lw K mg) : Meth K (He.ga K "Ratio") "sign" (He.ma K (He.ga K "Ratio") "sign") := He.meth_ok (L.c.fact 77 rfl)
theorem Lw.me_Ratio_compare (L : Lw K mg) : Meth K (He.ga K "Ratio") "compare" (He.ma K (He.ga K "Ratio") "compare") := He.meth_ok (L.c.fact 78 rfl)
theorem Lw.cl_Poly (L : Lw K mg) : Cls K (He.ga K "Poly") := He.cls_ok (L.c.fact 79 rfl)
theorem Lw.in_Poly (L : Lw K mg) : InsK K (He.ga K "Poly") := insK_ok (L.c.fact 80 rfl)
theorem Lw.mk_Poly (L : Lw K mg) : Mk K (He.ga K "Poly") (He.ma K (He.ga K "Poly") "__init__") := He.mkr_ok (L.c.fact 81 rfl)
theorem Lw.sf_Poly (L : Lw K mg) : PySem.W.selfFirst K (He.ga K "Poly") = true := (L.c.fact 82 rfl)
theorem Lw.na_Poly_degree (L : Lw K mg) : NoAttr K (He.ga K "Poly") "degree" := He.noat_ok (L.c.fact 83 rfl)
theorem Lw.na_Poly_numbers (L : Lw K mg) : NoAttr K (He.ga K "Poly") "numbers" := He.noat_ok (L.c.fact 84 rfl)
theorem Lw.na_Poly_over (L : Lw K mg) : NoAttr K (He.ga K "Poly") "over" := He.noat_ok (L.c.fact 85 rfl)
theorem Lw.me_PolyD_eqD (L : Lw K mg) : Meth K (He.ga K "Poly") "__eq__" (He.ma K (He.ga K "Poly") "__eq__") := He.meth_ok (L.c.fact 86 rfl)
theorem Lw.cr_Poly (L : Lw K mg) : ClX.CRead K (He.ga K "Poly") (.type "type") := cread_ok (L.c.fact 87 rfl)
theorem Lw.sm_Poly_made (L : Lw K mg) : SMet K (He.ga K "Poly") "made" (He.ma K (He.ga K "Poly") "made") (He5.wf K (He.ga K "Poly") "staticmethod" "made") := smet_ok (L.c.fact 88 rfl)
theorem Lw.me_PolyD_addD (L : Lw K mg) : Meth K (He.ga K "Poly") "__add__" (He.ma K (He.ga K "Poly") "__add__") := He.meth_ok (L.c.fact 89 rfl)
theorem Lw.me_Poly_scaled (L : Lw K mg) : Meth K (He.ga K "Poly") "scaled" (He.ma K (He.ga K "Poly") "scaled") := He.meth_ok (L.c.fact 90 rfl)
theorem Lw.cl_SixClaim (L : Lw K mg) : Cls K (He.ga K "SixClaim") := He.cls_ok (L.c.fact 91 rfl)
theorem Lw.in_SixClaim (L : Lw K mg) : InsK K (He.ga K "SixClaim") := insK_ok (L.c.fact 92 rfl)
theorem Lw.mk_SixClaim (L : Lw K mg) : Mk K (He.ga K "SixClaim") (He.ma K (He.ga K "SixClaim") "__init__") := He.mkr_ok (L.c.fact 93 rfl)
theorem Lw.na_SixClaim_letters (L : Lw K mg) : NoAttr K (He.ga K "SixClaim") "letters" := He.noat_ok (L.c.fact 95 rfl)
theorem Lw.na_SixClaim_numbers (L : Lw K mg) : NoAttr K (He.ga K "SixClaim") "numbers" := He.noat_ok (L.c.fact 96 rfl)
theorem Lw.me_SixClaim_quadratic (L : Lw K mg) : Meth K (He.ga K "SixClaim") "quadratic" (He.ma K (He.ga K "SixClaim") "quadratic") := He.meth_ok (L.c.fact 97 rfl)
theorem Lw.me_SixClaim_holds (L : Lw K mg) : Meth K (He.ga K "SixClaim") "holds" (He.ma K (He.ga K "SixClaim") "holds") := He.meth_ok (L.c.fact 98 rfl)
theorem Lw.cl_SixPaper (L : Lw K mg) : Cls K (He.ga K "SixPaper") := He.cls_ok (L.c.fact 99 rfl)
theorem Lw.in_SixPaper (L : Lw K mg) : InsK K (He.ga K "SixPaper") := insK_ok (L.c.fact 100 rfl)
theorem Lw.mk_SixPaper (L : Lw K mg) : Mk K (He.ga K "SixPaper") (He.ma K (He.ga K "SixPaper") "__init__") := He.mkr_ok (L.c.fact 101 rfl)
theorem Lw.na_SixPaper_amount (L : Lw K mg) : NoAttr K (He.ga K "SixPaper") "amount" := He.noat_ok (L.c.fact 103 rfl)
theorem Lw.na_SixPaper_block (L : Lw K mg) : NoAttr K (He.ga K "SixPaper") "block" := He.noat_ok (L.c.fact 104 rfl)
theorem Lw.na_SixPaper_rest (L : Lw K mg) : NoAttr K (He.ga K "SixPaper") "rest" := He.noat_ok (L.c.fact 105 rfl)
theorem Lw.pr_SixPaper_is_squares (L : Lw K mg) : PropOf K (He.ga K "SixPaper") "is_squares" (He.ma K (He.ga K "SixPaper") "is_squares") (He5.wf K (He.ga K "SixPaper") "property" "is_squares") := prp_ok (L.c.fact 106 rfl)
theorem Lw.me_SixPaper_shows (L : Lw K mg) : Meth K (He.ga K "SixPaper") "shows" (He.ma K (He.ga K "SixPaper") "shows") := He.meth_ok (L.c.fact 107 rfl)
theorem Lw.cl_Piece (L : Lw K mg) : Cls K (He.ga K "Piece") := He.cls_ok (L.c.fact 108 rfl)
theorem Lw.mk_Piece (L : Lw K mg) : Mk K (He.ga K "Piece") (He.ma K (He.ga K "Piece") "__init__") := He.mkr_ok (L.c.fact 110 rfl)
theorem Lw.na_Piece_high (L : Lw K mg) : NoAttr K (He.ga K "Piece") "high" := He.noat_ok (L.c.fact 112 rfl)
theorem Lw.na_Piece_low (L : Lw K mg) : NoAttr K (He.ga K "Piece") "low" := He.noat_ok (L.c.fact 113 rfl)
theorem Lw.cl_LineClaim (L : Lw K mg) : Cls K (He.ga K "LineClaim") := He.cls_ok (L.c.fact 114 rfl)
theorem Lw.in_LineClaim (L : Lw K mg) : InsK K (He.ga K "LineClaim") := insK_ok (L.c.fact 115 rfl)
theorem Lw.mk_LineClaim (L : Lw K mg) : Mk K (He.ga K "LineClaim") (He.ma K (He.ga K "LineClaim") "__init__") := He.mkr_ok (L.c.fact 116 rfl)
theorem Lw.na_LineClaim_letters (L : Lw K mg) : NoAttr K (He.ga K "LineClaim") "letters" := He.noat_ok (L.c.fact 118 rfl)
theorem Lw.na_LineClaim_piece (L : Lw K mg) : NoAttr K (He.ga K "LineClaim") "piece" := He.noat_ok (L.c.fact 119 rfl)
theorem Lw.na_LineClaim_poly (L : Lw K mg) : NoAttr K (He.ga K "LineClaim") "poly" := He.noat_ok (L.c.fact 120 rfl)
theorem Lw.cl_CutPaper (L : Lw K mg) : Cls K (He.ga K "CutPaper") := He.cls_ok (L.c.fact 121 rfl)
theorem Lw.mk_CutPaper (L : Lw K mg) : Mk K (He.ga K "CutPaper") (He.ma K (He.ga K "CutPaper") "__init__") := He.mkr_ok (L.c.fact 123 rfl)
theorem Lw.na_CutPaper_core (L : Lw K mg) : NoAttr K (He.ga K "CutPaper") "core" := He.noat_ok (L.c.fact 125 rfl)
theorem Lw.na_CutPaper_cuts (L : Lw K mg) : NoAttr K (He.ga K "CutPaper") "cuts" := He.noat_ok (L.c.fact 126 rfl)
theorem Lw.na_CutPaper_side (L : Lw K mg) : NoAttr K (He.ga K "CutPaper") "side" := He.noat_ok (L.c.fact 127 rfl)
theorem Lw.me_CutPaper_shows (L : Lw K mg) : Meth K (He.ga K "CutPaper") "shows" (He.ma K (He.ga K "CutPaper") "shows") := He.meth_ok (L.c.fact 128 rfl)
theorem Lw.cl_FourClaim (L : Lw K mg) : Cls K (He.ga K "FourClaim") := He.cls_ok (L.c.fact 129 rfl)
theorem Lw.in_FourClaim (L : Lw K mg) : InsK K (He.ga K "FourClaim") := insK_ok (L.c.fact 130 rfl)
theorem Lw.mk_FourClaim (L : Lw K mg) : Mk K (He.ga K "FourClaim") (He.ma K (He.ga K "FourClaim") "__init__") := He.mkr_ok (L.c.fact 131 rfl)
theorem Lw.na_FourClaim_letters (L : Lw K mg) : NoAttr K (He.ga K "FourClaim") "letters" := He.noat_ok (L.c.fact 133 rfl)
theorem Lw.na_FourClaim_numbers (L : Lw K mg) : NoAttr K (He.ga K "FourClaim") "numbers" := He.noat_ok (L.c.fact 134 rfl)
theorem Lw.ox_BadSize (L : Lw K mg) : OexC K (He.ga K "BadSize") ∧ PySem.W.findIn K (.ref (He.ga K "BadSize")) "__init__" = some (some (.ref (He.ma K (He.ga K "BadSize") "__init__"))) ∧ PySem.W.typeIn K (.ref (He.ma K (He.ga K "BadSize") "__init__")) = some (.type "function") := oex_ok (L.c.fact 135 rfl)
theorem Lw.na_BadSize_size (L : Lw K mg) : NoAttr K (He.ga K "BadSize") "size" := He.noat_ok (L.c.fact 136 rfl)
theorem Lw.ox_Crossed (L : Lw K mg) : OexC K (He.ga K "Crossed") ∧ PySem.W.findIn K (.ref (He.ga K "Crossed")) "__init__" = some (some (.ref (He.ma K (He.ga K "Crossed") "__init__"))) ∧ PySem.W.typeIn K (.ref (He.ma K (He.ga K "Crossed") "__init__")) = some (.type "function") := oex_ok (L.c.fact 137 rfl)
theorem Lw.na_Crossed_low (L : Lw K mg) : NoAttr K (He.ga K "Crossed") "low" := He.noat_ok (L.c.fact 138 rfl)
theorem Lw.na_Crossed_high (L : Lw K mg) : NoAttr K (He.ga K "Crossed") "high" := He.noat_ok (L.c.fact 139 rfl)
theorem Lw.ox_OutOfBounds (L : Lw K mg) : OexC K (He.ga K "OutOfBounds") ∧ PySem.W.findIn K (.ref (He.ga K "OutOfBounds")) "__init__" = some (some (.ref (He.ma K (He.ga K "OutOfBounds") "__init__"))) ∧ PySem.W.typeIn K (.ref (He.ma K (He.ga K "OutOfBounds") "__init__")) = some (.type "function") := oex_ok (L.c.fact 140 rfl)
theorem Lw.na_OutOfBounds_value (L : Lw K mg) : NoAttr K (He.ga K "OutOfBounds") "value" := He.noat_ok (L.c.fact 141 rfl)
theorem Lw.ox_TooHigh (L : Lw K mg) : OexC K (He.ga K "TooHigh") ∧ PySem.W.findIn K (.ref (He.ga K "TooHigh")) "__init__" = some (some (.ref (He.ma K (He.ga K "TooHigh") "__init__"))) ∧ PySem.W.typeIn K (.ref (He.ma K (He.ga K "TooHigh") "__init__")) = some (.type "function") := oex_ok (L.c.fact 142 rfl)
theorem Lw.na_TooHigh_degree (L : Lw K mg) : NoAttr K (He.ga K "TooHigh") "degree" := He.noat_ok (L.c.fact 143 rfl)
theorem Lw.e0_ZeroBottom (L : Lw K mg) : PySem.W.excIn K (He.ga K "ZeroBottom") He.veBase "ValueError.__new__" = true ∧ PySem.W.keepIn K (.ref (He.ga K "ZeroBottom")) = true ∧ PySem.W.subIn K (.ref (He.ga K "ZeroBottom")) (.type "BaseException") = some true ∧ PySem.W.typeIn K (.ref (He.ga K "ZeroBottom")) = some (.type "type") := He.exc_ok (L.c.fact 144 rfl)
theorem Lw.xi_ZeroBottom (L : Lw K mg) : PySem.W.excIn K (He.ga K "ZeroBottom") He.veBase "ValueError.__new__" = true := (L.e0_ZeroBottom).1
theorem Lw.kp_ZeroBottom (L : Lw K mg) : PySem.W.keepIn K (.ref (He.ga K "ZeroBottom")) = true := (L.e0_ZeroBottom).2.1
theorem Lw.xb_ZeroBottom (L : Lw K mg) : PySem.W.subIn K (.ref (He.ga K "ZeroBottom")) (.type "BaseException") = some true := (L.e0_ZeroBottom).2.2.1
theorem Lw.xt_ZeroBottom (L : Lw K mg) : PySem.W.typeIn K (.ref (He.ga K "ZeroBottom")) = some (.type "type") := (L.e0_ZeroBottom).2.2.2
theorem Lw.xm_OutOfBounds_OutOfBounds (L : Lw K mg) : PySem.W.exmOne K (.ref (He.ga K "OutOfBounds")) (.ref (He.ga K "OutOfBounds")) = some true := He.exm_ok (L.c.fact 147 rfl)
theorem Lw.ec_OutOfBounds (L : Lw K mg) : ExcC K (He.ga K "OutOfBounds") := excC_ok (L.c.fact 152 rfl)
theorem Lw.xf_OutOfBounds (L : Lw K mg) : XfC K (He.ga K "OutOfBounds") := (L.ec_OutOfBounds).xf
theorem Lw.co_SixPaper_KIND (L : Lw K mg) : ∃ u, Con K (He.ga K "SixPaper") "KIND" (.str "paper") u := con_ok (L.c.fact 155 rfl)
theorem Lw.kt_Ratio_Ratio (L : Lw K mg) : PySem.W.kitOne K (.ref (He.ga K "Ratio")) (.ref (He.ga K "Ratio")) = some true := of_decide_eq_true (L.c.fact 157 rfl)
theorem Lw.kt_Poly_Poly (L : Lw K mg) : PySem.W.kitOne K (.ref (He.ga K "Poly")) (.ref (He.ga K "Poly")) = some true := of_decide_eq_true (L.c.fact 158 rfl)
theorem Lw.kt_SixPaper_Paper (L : Lw K mg) : PySem.W.kitOne K (.ref (He.ga K "SixPaper")) (.ref (He.ga K "Paper")) = some true := of_decide_eq_true (L.c.fact 160 rfl)
theorem Lw.kt_SixPaper_Spot (L : Lw K mg) : PySem.W.kitOne K (.ref (He.ga K "SixPaper")) (.ref (He.ga K "Spot")) = some false := of_decide_eq_true (L.c.fact 161 rfl)
theorem Lw.kt_SixPaper_Answer (L : Lw K mg) : PySem.W.kitOne K (.ref (He.ga K "SixPaper")) (.ref (He.ga K "Answer")) = some true := of_decide_eq_true (L.c.fact 162 rfl)
theorem Lw.kt_OutOfBounds_BadSize (L : Lw K mg) : PySem.W.kitOne K (.ref (He.ga K "OutOfBounds")) (.ref (He.ga K "BadSize")) = some false := of_decide_eq_true (L.c.fact 167 rfl)
theorem Lw.kt_OutOfBounds_NoughtError (L : Lw K mg) : PySem.W.kitOne K (.ref (He.ga K "OutOfBounds")) (.ref (He.ga K "NoughtError")) = some true := of_decide_eq_true (L.c.fact 168 rfl)
theorem Lw.kt_SixClaim_SixClaim (L : Lw K mg) : PySem.W.kitOne K (.ref (He.ga K "SixClaim")) (.ref (He.ga K "SixClaim")) = some true := of_decide_eq_true (L.c.fact 172 rfl)
theorem Lw.kt_LineClaim_SixClaim (L : Lw K mg) : PySem.W.kitOne K (.ref (He.ga K "LineClaim")) (.ref (He.ga K "SixClaim")) = some false := of_decide_eq_true (L.c.fact 173 rfl)
theorem Lw.kt_FourClaim_SixClaim (L : Lw K mg) : PySem.W.kitOne K (.ref (He.ga K "FourClaim")) (.ref (He.ga K "SixClaim")) = some false := of_decide_eq_true (L.c.fact 174 rfl)
theorem Lw.kt_SixClaim_LineClaim (L : Lw K mg) : PySem.W.kitOne K (.ref (He.ga K "SixClaim")) (.ref (He.ga K "LineClaim")) = some false := of_decide_eq_true (L.c.fact 175 rfl)
theorem Lw.d_OutOfBoundsD_initD (L : Lw K mg) : ∃ fd, FunD K "__init__" "OutOfBounds.__init__" (defArgs s_OutOfBoundsD_initD) (defBody s_OutOfBoundsD_initD) (defScope s_OutOfBoundsD_initD) (df_OutOfBoundsD_initD.dvs K) (df_OutOfBoundsD_initD.kws K) (He.fAd K ("OutOfBounds", some "__init__")) fd := L.c.def_ 0 (d := df_OutOfBoundsD_initD) rfl
theorem Lw.d_check_number (L : Lw K mg) : ∃ fd, FunD K "check_number" "check_number" (defArgs s_check_number) (defBody s_check_number) (defScope s_check_number) (df_check_number.dvs K) (df_check_number.kws K) (He.fAd K ("check_number", none)) fd := L.c.def_ 1 (d := df_check_number) rfl
theorem Lw.d_BadSizeD_initD (L : Lw K mg) : ∃ fd, FunD K "__init__" "BadSize.__init__" (defArgs s_BadSizeD_initD) (defBody s_BadSizeD_initD) (defScope s_BadSizeD_initD) (df_BadSizeD_initD.dvs K) (df_BadSizeD_initD.kws K) (He.fAd K ("BadSize", some "__init__")) fd := L.c.def_ 2 (d := df_BadSizeD_initD) rfl
theorem Lw.d_check_size (L : Lw K mg) : ∃ fd, FunD K "check_size" "check_size" (defArgs s_check_size) (defBody s_check_size) (defScope s_check_size) (df_check_size.dvs K) (df_check_size.kws K) (He.fAd K ("check_size", none)) fd := L.c.def_ 3 (d := df_check_size) rfl
theorem Lw.d_lowest_terms (L : Lw K mg) : ∃ fd, FunD K "lowest_terms" "lowest_terms" (defArgs s_lowest_terms) (defBody s_lowest_terms) (defScope s_lowest_terms) (df_lowest_terms.dvs K) (df_lowest_terms.kws K) (He.fAd K ("lowest_terms", none)) fd := L.c.def_ 4 (d := df_lowest_terms) rfl
theorem Lw.d_PolyD_initD (L : Lw K mg) : ∃ fd, FunD K "__init__" "Poly.__init__" (defArgs s_PolyD_initD) (defBody s_PolyD_initD) (defScope s_PolyD_initD) (df_PolyD_initD.dvs K) (df_PolyD_initD.kws K) (He.fAd K ("Poly", some "__init__")) fd := L.c.def_ 5 (d := df_PolyD_initD) rfl
theorem Lw.d_quadratic_of (L : Lw K mg) : ∃ fd, FunD K "quadratic_of" "quadratic_of" (defArgs s_quadratic_of) (defBody s_quadratic_of) (defScope s_quadratic_of) (df_quadratic_of.dvs K) (df_quadratic_of.kws K) (He.fAd K ("quadratic_of", none)) fd := L.c.def_ 6 (d := df_quadratic_of) rfl
theorem Lw.d_SixClaim_quadratic (L : Lw K mg) : ∃ fd, FunD K "quadratic" "SixClaim.quadratic" (defArgs s_SixClaim_quadratic) (defBody s_SixClaim_quadratic) (defScope s_SixClaim_quadratic) (df_SixClaim_quadratic.dvs K) (df_SixClaim_quadratic.kws K) (He.fAd K ("SixClaim", some "quadratic")) fd := L.c.def_ 7 (d := df_SixClaim_quadratic) rfl
theorem Lw.d_whole_three (L : Lw K mg) : ∃ fd, FunD K "whole_three" "whole_three" (defArgs s_whole_three) (defBody s_whole_three) (defScope s_whole_three) (df_whole_three.dvs K) (df_whole_three.kws K) (He.fAd K ("whole_three", none)) fd := L.c.def_ 8 (d := df_whole_three) rfl
theorem Lw.d_first_below (L : Lw K mg) : ∃ fd, FunD K "first_below" "first_below" (defArgs s_first_below) (defBody s_first_below) (defScope s_first_below) (df_first_below.dvs K) (df_first_below.kws K) (He.fAd K ("first_below", none)) fd := L.c.def_ 9 (d := df_first_below) rfl
theorem Lw.d_SixClaim_holds (L : Lw K mg) : ∃ fd, FunD K "holds" "SixClaim.holds" (defArgs s_SixClaim_holds) (defBody s_SixClaim_holds) (defScope s_SixClaim_holds) (df_SixClaim_holds.dvs K) (df_SixClaim_holds.kws K) (He.fAd K ("SixClaim", some "holds")) fd := L.c.def_ 10 (d := df_SixClaim_holds) rfl
theorem Lw.d_PolyD_eqD (L : Lw K mg) : ∃ fd, FunD K "__eq__" "Poly.__eq__" (defArgs s_PolyD_eqD) (defBody s_PolyD_eqD) (defScope s_PolyD_eqD) (df_PolyD_eqD.dvs K) (df_PolyD_eqD.kws K) (He.fAd K ("Poly", some "__eq__")) fd := L.c.def_ 11 (d := df_PolyD_eqD) rfl
theorem Lw.d_SixPaper_is_squares (L : Lw K mg) : ∃ fd, FunD K "is_squares" "SixPaper.is_squares" (defArgs s_SixPaper_is_squares) (defBody s_SixPaper_is_squares) (defScope s_SixPaper_is_squares) (df_SixPaper_is_squares.dvs K) (df_SixPaper_is_squares.kws K) (He5.wf K (He.ga K "SixPaper") "property" "is_squares") fd := L.c.def_ 12 (d := df_SixPaper_is_squares) rfl
theorem Lw.d_RatioD_initD (L : Lw K mg) : ∃ fd, FunD K "__init__" "Ratio.__init__" (defArgs s_RatioD_initD) (defBody s_RatioD_initD) (defScope s_RatioD_initD) (df_RatioD_initD.dvs K) (df_RatioD_initD.kws K) (He.fAd K ("Ratio", some "__init__")) fd := L.c.def_ 13 (d := df_RatioD_initD) rfl
theorem Lw.d_SixClaimD_initD (L : Lw K mg) : ∃ fd, FunD K "__init__" "SixClaim.__init__" (defArgs s_SixClaimD_initD) (defBody s_SixClaimD_initD) (defScope s_SixClaimD_initD) (df_SixClaimD_initD.dvs K) (df_SixClaimD_initD.kws K) (He.fAd K ("SixClaim", some "__init__")) fd := L.c.def_ 14 (d := df_SixClaimD_initD) rfl
theorem Lw.d_law_claim (L : Lw K mg) : ∃ fd, FunD K "_law_claim" "_law_claim" (defArgs s_law_claim) (defBody s_law_claim) (defScope s_law_claim) (df_law_claim.dvs K) (df_law_claim.kws K) (He.fAd K ("_law_claim", none)) fd := L.c.def_ 15 (d := df_law_claim) rfl
theorem Lw.d_law_flag (L : Lw K mg) : ∃ fd, FunD K "_law_flag" "_law_flag" (defArgs s_law_flag) (defBody s_law_flag) (defScope s_law_flag) (df_law_flag.dvs K) (df_law_flag.kws K) (He.fAd K ("_law_flag", none)) fd := L.c.def_ 16 (d := df_law_flag) rfl
theorem Lw.d_law_whole (L : Lw K mg) : ∃ fd, FunD K "_law_whole" "_law_whole" (defArgs s_law_whole) (defBody s_law_whole) (defScope s_law_whole) (df_law_whole.dvs K) (df_law_whole.kws K) (He.fAd K ("_law_whole", none)) fd := L.c.def_ 17 (d := df_law_whole) rfl
theorem Lw.d_law_fraction (L : Lw K mg) : ∃ fd, FunD K "_law_fraction" "_law_fraction" (defArgs s_law_fraction) (defBody s_law_fraction) (defScope s_law_fraction) (df_law_fraction.dvs K) (df_law_fraction.kws K) (He.fAd K ("_law_fraction", none)) fd := L.c.def_ 18 (d := df_law_fraction) rfl
theorem Lw.d_law_is (L : Lw K mg) : ∃ fd, FunD K "_law_is" "_law_is" (defArgs s_law_is) (defBody s_law_is) (defScope s_law_is) (df_law_is.dvs K) (df_law_is.kws K) (He.fAd K ("_law_is", none)) fd := L.c.def_ 19 (d := df_law_is) rfl
theorem Lw.d_SixPaperD_initD (L : Lw K mg) : ∃ fd, FunD K "__init__" "SixPaper.__init__" (defArgs s_SixPaperD_initD) (defBody s_SixPaperD_initD) (defScope s_SixPaperD_initD) (df_SixPaperD_initD.dvs K) (df_SixPaperD_initD.kws K) (He.fAd K ("SixPaper", some "__init__")) fd := L.c.def_ 20 (d := df_SixPaperD_initD) rfl
theorem Lw.d_law_made (L : Lw K mg) : ∃ fd, FunD K "_law_made" "_law_made" (defArgs s_law_made) (defBody s_law_made) (defScope s_law_made) (df_law_made.dvs K) (df_law_made.kws K) (He.fAd K ("_law_made", none)) fd := L.c.def_ 21 (d := df_law_made) rfl
theorem Lw.d_CutPaper_shows (L : Lw K mg) : ∃ fd, FunD K "shows" "CutPaper.shows" (defArgs s_CutPaper_shows) (defBody s_CutPaper_shows) (defScope s_CutPaper_shows) (df_CutPaper_shows.dvs K) (df_CutPaper_shows.kws K) (He.fAd K ("CutPaper", some "shows")) fd := L.c.def_ 22 (d := df_CutPaper_shows) rfl
theorem Lw.d_Poly_made (L : Lw K mg) : ∃ fd, FunD K "made" "Poly.made" (defArgs s_Poly_made) (defBody s_Poly_made) (defScope s_Poly_made) (df_Poly_made.dvs K) (df_Poly_made.kws K) (He5.wf K (He.ga K "Poly") "staticmethod" "made") fd := L.c.def_ 23 (d := df_Poly_made) rfl
theorem Lw.d_poly_sum (L : Lw K mg) : ∃ fd, FunD K "poly_sum" "poly_sum" (defArgs s_poly_sum) (defBody s_poly_sum) (defScope s_poly_sum) (df_poly_sum.dvs K) (df_poly_sum.kws K) (He.fAd K ("poly_sum", none)) fd := L.c.def_ 24 (d := df_poly_sum) rfl
theorem Lw.d_PolyD_addD (L : Lw K mg) : ∃ fd, FunD K "__add__" "Poly.__add__" (defArgs s_PolyD_addD) (defBody s_PolyD_addD) (defScope s_PolyD_addD) (df_PolyD_addD.dvs K) (df_PolyD_addD.kws K) (He.fAd K ("Poly", some "__add__")) fd := L.c.def_ 25 (d := df_PolyD_addD) rfl
theorem Lw.d_Poly_scaled (L : Lw K mg) : ∃ fd, FunD K "scaled" "Poly.scaled" (defArgs s_Poly_scaled) (defBody s_Poly_scaled) (defScope s_Poly_scaled) (df_Poly_scaled.dvs K) (df_Poly_scaled.kws K) (He.fAd K ("Poly", some "scaled")) fd := L.c.def_ 26 (d := df_Poly_scaled) rfl
theorem Lw.d_Ratio_sign (L : Lw K mg) : ∃ fd, FunD K "sign" "Ratio.sign" (defArgs s_Ratio_sign) (defBody s_Ratio_sign) (defScope s_Ratio_sign) (df_Ratio_sign.dvs K) (df_Ratio_sign.kws K) (He.fAd K ("Ratio", some "sign")) fd := L.c.def_ 27 (d := df_Ratio_sign) rfl
theorem Lw.d_block_poly (L : Lw K mg) : ∃ fd, FunD K "block_poly" "block_poly" (defArgs s_block_poly) (defBody s_block_poly) (defScope s_block_poly) (df_block_poly.dvs K) (df_block_poly.kws K) (He.fAd K ("block_poly", none)) fd := L.c.def_ 28 (d := df_block_poly) rfl
theorem Lw.d_is_never_below (L : Lw K mg) : ∃ fd, FunD K "is_never_below" "is_never_below" (defArgs s_is_never_below) (defBody s_is_never_below) (defScope s_is_never_below) (df_is_never_below.dvs K) (df_is_never_below.kws K) (He.fAd K ("is_never_below", none)) fd := L.c.def_ 29 (d := df_is_never_below) rfl
theorem Lw.d_SixPaper_shows (L : Lw K mg) : ∃ fd, FunD K "shows" "SixPaper.shows" (defArgs s_SixPaper_shows) (defBody s_SixPaper_shows) (defScope s_SixPaper_shows) (df_SixPaper_shows.dvs K) (df_SixPaper_shows.kws K) (He.fAd K ("SixPaper", some "shows")) fd := L.c.def_ 30 (d := df_SixPaper_shows) rfl
theorem Lw.d_judge (L : Lw K mg) : ∃ fd, FunD K "judge" "judge" (defArgs s_judge) (defBody s_judge) (defScope s_judge) (df_judge.dvs K) (df_judge.kws K) (He.fAd K ("judge", none)) fd := L.c.def_ 31 (d := df_judge) rfl
theorem Lw.d_law_says (L : Lw K mg) : ∃ fd, FunD K "_law_says" "_law_says" (defArgs s_law_says) (defBody s_law_says) (defScope s_law_says) (df_law_says.dvs K) (df_law_says.kws K) (He.fAd K ("_law_says", none)) fd := L.c.def_ 32 (d := df_law_says) rfl
theorem Lw.d_law_ask (L : Lw K mg) : ∃ fd, FunD K "_law_ask" "_law_ask" (defArgs s_law_ask) (defBody s_law_ask) (defScope s_law_ask) (df_law_ask.dvs K) (df_law_ask.kws K) (He.fAd K ("_law_ask", none)) fd := L.c.def_ 33 (d := df_law_ask) rfl
theorem Lw.d_law_at (L : Lw K mg) : ∃ fd, FunD K "_law_at" "_law_at" (defArgs s_law_at) (defBody s_law_at) (defScope s_law_at) (df_law_at.dvs K) (df_law_at.kws K) (He.fAd K ("_law_at", none)) fd := L.c.def_ 34 (d := df_law_at) rfl
theorem Lw.d_law_holds (L : Lw K mg) : ∃ fd, FunD K "_law_holds" "_law_holds" (defArgs s_law_holds) (defBody s_law_holds) (defScope s_law_holds) (df_law_holds.dvs K) (df_law_holds.kws K) (He.fAd K ("_law_holds", none)) fd := L.c.def_ 35 (d := df_law_holds) rfl
theorem Lw.d_law_block (L : Lw K mg) : ∃ fd, FunD K "_law_block" "_law_block" (defArgs s_law_block) (defBody s_law_block) (defScope s_law_block) (df_law_block.dvs K) (df_law_block.kws K) (He.fAd K ("_law_block", none)) fd := L.c.def_ 36 (d := df_law_block) rfl
theorem Lw.d_law_sum (L : Lw K mg) : ∃ fd, FunD K "_law_sum" "_law_sum" (defArgs s_law_sum) (defBody s_law_sum) (defScope s_law_sum) (df_law_sum.dvs K) (df_law_sum.kws K) (He.fAd K ("_law_sum", none)) fd := L.c.def_ 37 (d := df_law_sum) rfl
theorem Lw.d_law_built (L : Lw K mg) : ∃ fd, FunD K "_law_built" "_law_built" (defArgs s_law_built) (defBody s_law_built) (defScope s_law_built) (df_law_built.dvs K) (df_law_built.kws K) (He.fAd K ("_law_built", none)) fd := L.c.def_ 38 (d := df_law_built) rfl
theorem Lw.d_law_bent_blocks (L : Lw K mg) : ∃ fd, FunD K "_law_bent_blocks" "_law_bent_blocks" (defArgs s_law_bent_blocks) (defBody s_law_bent_blocks) (defScope s_law_bent_blocks) (df_law_bent_blocks.dvs K) (df_law_bent_blocks.kws K) (He.fAd K ("_law_bent_blocks", none)) fd := L.c.def_ 39 (d := df_law_bent_blocks) rfl
theorem Lw.d_law_bent_claims (L : Lw K mg) : ∃ fd, FunD K "_law_bent_claims" "_law_bent_claims" (defArgs s_law_bent_claims) (defBody s_law_bent_claims) (defScope s_law_bent_claims) (df_law_bent_claims.dvs K) (df_law_bent_claims.kws K) (He.fAd K ("_law_bent_claims", none)) fd := L.c.def_ 40 (d := df_law_bent_claims) rfl
theorem Lw.d_law_bent_parts (L : Lw K mg) : ∃ fd, FunD K "_law_bent_parts" "_law_bent_parts" (defArgs s_law_bent_parts) (defBody s_law_bent_parts) (defScope s_law_bent_parts) (df_law_bent_parts.dvs K) (df_law_bent_parts.kws K) (He.fAd K ("_law_bent_parts", none)) fd := L.c.def_ 41 (d := df_law_bent_parts) rfl
theorem Lw.d_law_cell (L : Lw K mg) : ∃ fd, FunD K "_law_cell" "_law_cell" (defArgs s_law_cell) (defBody s_law_cell) (defScope s_law_cell) (df_law_cell.dvs K) (df_law_cell.kws K) (He.fAd K ("_law_cell", none)) fd := L.c.def_ 42 (d := df_law_cell) rfl
theorem Lw.d_law_draw (L : Lw K mg) : ∃ fd, FunD K "_law_draw" "_law_draw" (defArgs s_law_draw) (defBody s_law_draw) (defScope s_law_draw) (df_law_draw.dvs K) (df_law_draw.kws K) (He.fAd K ("_law_draw", none)) fd := L.c.def_ 43 (d := df_law_draw) rfl
theorem Lw.d_law_letters (L : Lw K mg) : ∃ fd, FunD K "_law_letters" "_law_letters" (defArgs s_law_letters) (defBody s_law_letters) (defScope s_law_letters) (df_law_letters.dvs K) (df_law_letters.kws K) (He.fAd K ("_law_letters", none)) fd := L.c.def_ 44 (d := df_law_letters) rfl
theorem Lw.d_law_long_rests (L : Lw K mg) : ∃ fd, FunD K "_law_long_rests" "_law_long_rests" (defArgs s_law_long_rests) (defBody s_law_long_rests) (defScope s_law_long_rests) (df_law_long_rests.dvs K) (df_law_long_rests.kws K) (He.fAd K ("_law_long_rests", none)) fd := L.c.def_ 45 (d := df_law_long_rests) rfl
theorem Lw.d_CrossedD_initD (L : Lw K mg) : ∃ fd, FunD K "__init__" "Crossed.__init__" (defArgs s_CrossedD_initD) (defBody s_CrossedD_initD) (defScope s_CrossedD_initD) (df_CrossedD_initD.dvs K) (df_CrossedD_initD.kws K) (He.fAd K ("Crossed", some "__init__")) fd := L.c.def_ 46 (d := df_CrossedD_initD) rfl
theorem Lw.d_Ratio_compare (L : Lw K mg) : ∃ fd, FunD K "compare" "Ratio.compare" (defArgs s_Ratio_compare) (defBody s_Ratio_compare) (defScope s_Ratio_compare) (df_Ratio_compare.dvs K) (df_Ratio_compare.kws K) (He.fAd K ("Ratio", some "compare")) fd := L.c.def_ 47 (d := df_Ratio_compare) rfl
theorem Lw.d_CutPaperD_initD (L : Lw K mg) : ∃ fd, FunD K "__init__" "CutPaper.__init__" (defArgs s_CutPaperD_initD) (defBody s_CutPaperD_initD) (defScope s_CutPaperD_initD) (df_CutPaperD_initD.dvs K) (df_CutPaperD_initD.kws K) (He.fAd K ("CutPaper", some "__init__")) fd := L.c.def_ 48 (d := df_CutPaperD_initD) rfl
theorem Lw.d_FourClaimD_initD (L : Lw K mg) : ∃ fd, FunD K "__init__" "FourClaim.__init__" (defArgs s_FourClaimD_initD) (defBody s_FourClaimD_initD) (defScope s_FourClaimD_initD) (df_FourClaimD_initD.dvs K) (df_FourClaimD_initD.kws K) (He.fAd K ("FourClaim", some "__init__")) fd := L.c.def_ 49 (d := df_FourClaimD_initD) rfl
theorem Lw.d_TooHighD_initD (L : Lw K mg) : ∃ fd, FunD K "__init__" "TooHigh.__init__" (defArgs s_TooHighD_initD) (defBody s_TooHighD_initD) (defScope s_TooHighD_initD) (df_TooHighD_initD.dvs K) (df_TooHighD_initD.kws K) (He.fAd K ("TooHigh", some "__init__")) fd := L.c.def_ 50 (d := df_TooHighD_initD) rfl
theorem Lw.d_LineClaimD_initD (L : Lw K mg) : ∃ fd, FunD K "__init__" "LineClaim.__init__" (defArgs s_LineClaimD_initD) (defBody s_LineClaimD_initD) (defScope s_LineClaimD_initD) (df_LineClaimD_initD.dvs K) (df_LineClaimD_initD.kws K) (He.fAd K ("LineClaim", some "__init__")) fd := L.c.def_ 51 (d := df_LineClaimD_initD) rfl
theorem Lw.d_PieceD_initD (L : Lw K mg) : ∃ fd, FunD K "__init__" "Piece.__init__" (defArgs s_PieceD_initD) (defBody s_PieceD_initD) (defScope s_PieceD_initD) (df_PieceD_initD.dvs K) (df_PieceD_initD.kws K) (He.fAd K ("Piece", some "__init__")) fd := L.c.def_ 52 (d := df_PieceD_initD) rfl
theorem Lw.d_law_other_sorts (L : Lw K mg) : ∃ fd, FunD K "_law_other_sorts" "_law_other_sorts" (defArgs s_law_other_sorts) (defBody s_law_other_sorts) (defScope s_law_other_sorts) (df_law_other_sorts.dvs K) (df_law_other_sorts.kws K) (He.fAd K ("_law_other_sorts", none)) fd := L.c.def_ 53 (d := df_law_other_sorts) rfl
theorem Lw.d_law_refused (L : Lw K mg) : ∃ fd, FunD K "_law_refused" "_law_refused" (defArgs s_law_refused) (defBody s_law_refused) (defScope s_law_refused) (df_law_refused.dvs K) (df_law_refused.kws K) (He.fAd K ("_law_refused", none)) fd := L.c.def_ 54 (d := df_law_refused) rfl
theorem Lw.d_law (L : Lw K mg) : ∃ fd, FunD K "law" "law" (defArgs s_law) (defBody s_law) (defScope s_law) (df_law.dvs K) (df_law.kws K) (He.fAd K ("law", none)) fd := L.c.def_ 55 (d := df_law) rfl
end
end T
set_option maxHeartbeats 0
namespace T
open PySem PySem.W PySem.Calls PySem.Spec PyProof.Rows L2 Z
theorem ob_eq (st : PySem.W.SharedT) : ob st = hk.obs st.abs := seenG3_eq (HandSHeadRun.getT_eq st)
end T
set_option maxHeartbeats 4000000
namespace T
open PySem PySem.Spec PyProof.Rows L2 Z
local macro_rules | `(tactic| walk_at "up") => `(tactic| first
  | assumption
  | (refine' IsR.mono (by assumption) ?zup; case zup => walk_at "up")
  | (refine' IsE.mono (by assumption) ?zup; case zup => walk_at "up")
  | (refine' Same.at (by assumption) ?zup; case zup => walk_at "up")
  | (refine' SqL.of ?zup; case zup => walk_at "up")
  | (refine' L2.Same.seq (by assumption) ?zup; case zup => walk_at "up"))
local macro_rules | `(tactic| walk_at "z") => `(tactic| first
  | ((with_reducible refine' z_var ?zvh ?_); (case zvh => exact rfl))
  | with_reducible refine z_c ?_
  | with_reducible refine z_cons ?_
  | with_reducible refine z_nil ?_
  | with_reducible refine z_op ?_
  | with_reducible refine z_nx ?_
  | with_reducible refine z_seq ?_
  | with_reducible refine z_asg ?_
  | with_reducible refine z_asgG ?_
  | with_reducible refine z_call ?_
  | with_reducible refine z_sq0 ?_
  | with_reducible refine z_sq1 ?_
  | with_reducible refine z_ifS ?_
  | with_reducible refine z_test ?_
  | with_reducible refine z_tb ?_
  | with_reducible refine z_bl ?_
  | with_reducible refine z_blI ?_
  | with_reducible refine z_ret ?_
  | with_reducible refine z_rt ?_
  | with_reducible refine z_T ?_
  | with_reducible refine z_F ?_
  | with_reducible refine z_add ?_
  | with_reducible refine z_sub ?_
  | with_reducible refine z_neg ?_
  | with_reducible refine z_un ?_
  | with_reducible refine z_eqI ?_
  | with_reducible refine z_neI ?_
  | with_reducible refine z_lt ?_
  | with_reducible refine z_le ?_
  | with_reducible refine z_gt ?_
  | with_reducible refine z_ge ?_
  | with_reducible refine z_not ?_
  | with_reducible refine z_and ?_
  | with_reducible refine z_or ?_
  | with_reducible refine z_andV ?_
  | with_reducible refine z_orV ?_
  | with_reducible refine z_notV ?_
  | with_reducible refine z_if ?_
  | with_reducible refine z_cb ?_
  | with_reducible refine z_int1 ?_
  | with_reducible refine z_intb ?_
  | with_reducible refine z_abs ?_
  | with_reducible refine z_gcd ?_
  | with_reducible refine z_isi_ii ?_
  | with_reducible refine z_isi_ib ?_
  | with_reducible refine z_next ?_
  | with_reducible refine z_drop ?_
  | with_reducible refine z_par ?_
  | with_reducible refine z_par2 ?_
  | with_reducible refine z_tupN ?_
  | with_reducible refine z_lstN ?_
  | ((with_reducible refine' z_nt ?zl1 ?_); (case zl1 => exact Nat.le_of_ble_eq_true rfl); intro p H' hp hs he)
  | ((with_reducible refine' z_gtup ?zl1 ?zl2 ?_); (case zl1 => walk_at "up"); (case zl2 => exact rfl))
  | with_reducible refine z_bk ?_
  | with_reducible refine z_ct ?_
  | with_reducible refine z_break ?_
  | with_reducible refine z_cont ?_
  | with_reducible refine z_retN ?_
  | with_reducible refine z_nn ?_
  | with_reducible refine z_mk ?_
  | with_reducible refine z_gn ?_
  | with_reducible refine z_gcons ?_
  | with_reducible refine z_gnil ?_
  | with_reducible refine z_mt ?_
  | with_reducible refine z_mko ?_
  | with_reducible refine z_for2 ?_
  | with_reducible refine z_ownI ?_
  | ((with_reducible refine' z_lenL ?zl1 ?_); (case zl1 => walk_at "up"))
  | ((with_reducible refine' z_ixT ?zl1 ?zl2 ?_); (case zl1 => walk_at "up"); (case zl2 => exact rfl))
  | ((with_reducible refine' z_mulL ?zl1 ?zl2 ?_); (case zl1 => omega); (case zl2 => omega))
  | ((with_reducible refine' z_mulR ?zl1 ?zl2 ?_); (case zl1 => omega); (case zl2 => omega))
  | ((with_reducible refine' z_divS ?zl1 ?zl2 ?_); (case zl1 => omega); (case zl2 => omega))
  | ((with_reducible refine' z_mulW ?zl1 ?zl2 ?zl3 ?zl4 ?_); (case zl1 => omega); (case zl2 => omega); (case zl3 => omega); (case zl4 => omega))
  | ((with_reducible refine' z_divW ?zl1 ?zl2 ?_); (case zl1 => omega); (case zl2 => omega)))
local macro_rules | `(tactic| walk_at "zz") => `(tactic| repeat (walk_at "z"))
local macro_rules | `(tactic| walk_at "z") => `(tactic| ((with_reducible refine' z_fldt ?zc1 ?zc2 ?zl1 ?zl2 ?_); (case zc1 => exact Lw.cl_Ratio (by assumption)); (case zc2 => exact Lw.na_Ratio_top (by assumption)); (case zl1 => exact rfl); (case zl2 => walk_at "up")))
local macro_rules | `(tactic| walk_at "z") => `(tactic| ((with_reducible refine' z_fldb ?zc1 ?zc2 ?zl1 ?zl2 ?_); (case zc1 => exact Lw.cl_Ratio (by assumption)); (case zc2 => exact Lw.na_Ratio_bottom (by assumption)); (case zl1 => exact rfl); (case zl2 => walk_at "up")))
section
variable {P : Program} {w : World} {K : Frag} {mg : Str → Option Value} {base : Heap}
theorem ok_RatioD_initD (L : Lw K mg) {fd : FuncData} (F : FunD K "__init__" "Ratio.__init__" (defArgs s_RatioD_initD) (defBody s_RatioD_initD) (defScope s_RatioD_initD) (df_RatioD_initD.dvs K) (df_RatioD_initD.kws K) (He.fAd K ("Ratio", some "__init__")) fd) : FnOk P w K mg base (L2N.CX P w) 1 (He.fAd K ("Ratio", some "__init__")) fd (["self", "top", "bottom"] : List Str) (sp3 (fs_rinit K)) := by
  refine FunD.ok F sc_RatioD_initD len3 (fun cdv A outer s H vs Q E hr h => ?_)
  obtain ⟨a, b, c, rfl, h⟩ := h
  refine ⟨_, (pss_cons (ps_if (pt_cmpR op_eq (pv 2) pe_int (nomark _)) (pss_one (L2N.ps_raise rfl (L2N.takes_of rfl rfl rfl rfl) (pmk_x0 PySem.F.excBase_ValueError L.xi_ZeroBottom L.g_ZeroBottom L.kp_ZeroBottom (raises_own L.xb_ZeroBottom L.xt_ZeroBottom)))) pss_nil)
    (pss_cons (ps_set (i := 3) sc_RatioD_initD.nd rfl (by first | exact Or.inl rfl | exact Or.inr rfl) (pe_callBfun cr_gcd rfl L.v_gcd (pa_cons (pv 1) (pa_cons (pv 2) pa_nil))))
    (pss_cons (ps_if (pt_cmpR o_lt (pv 2) pe_int (nomark _)) (pss_one (ps_set (i := 3) sc_RatioD_initD.nd rfl (by first | exact Or.inl rfl | exact Or.inr rfl) (pe_un o_neg (pv 3)))) pss_nil)
    (pss_cons (ps_fld (pv 0) (pe_op o_div (pv 1) (pv 3)) rfl)
    (pss_one (ps_fld (pv 0) (pe_op o_div (pv 2) (pv 3)) rfl)))))), ?_⟩
  obtain ⟨x, dx, H0, n, d, rfl, rfl, rfl, rfl, hx, hdx, ne, hb, k, kz⟩ := h
  walk_at "zz"
  have sm : Same H0 (upd (upd H0 dx (.own x)) x (.ins (He.ga K "Ratio") dx [])) := fun y o hy => by
    rw [upd_ne (ne_of_none hy hx), upd_ne (ne_of_none hy hdx)]
    exact hy
  refine z_d2 (fun c => kz c _ sm) (fun c => ?_)
  have hc := rc_bits (n := n) c hb
  have hc0 := rc_ne (n := n) c
  walk_at "zz"
  refine z_d2 (fun c2 => ?_) (fun c2 => ?_)
  · walk_at "zz"
    have e : rc n d = -((Int.gcd n d : Nat) : Int) := by unfold rc; rw [if_pos c2]
    rw [e] at hc hc0
    refine run_rinit (a := .int (rt n d)) (b := .int (rb n d)) L.cl_Ratio L.na_Ratio_top L.na_Ratio_bottom hx hdx ne rfl (fun H1 Q1 q1 => ?_) (fun H1 Q1 q1 => ?_) (fun H' e1 e2 => k c H' e1 ⟨dx, e2⟩)
    · walk_at "zz"
      refine z_divN hc0 hc (by decide) (by decide) ?_
      unfold rt at q1
      rw [e] at q1
      exact q1
    · walk_at "zz"
      refine z_divN hc0 hc (by decide) (by decide) ?_
      unfold rb at q1
      rw [e] at q1
      exact q1
  · walk_at "zz"
    have e : rc n d = ((Int.gcd n d : Nat) : Int) := by unfold rc; rw [if_neg c2]
    rw [e] at hc hc0
    refine run_rinit (a := .int (rt n d)) (b := .int (rb n d)) L.cl_Ratio L.na_Ratio_top L.na_Ratio_bottom hx hdx ne rfl (fun H1 Q1 q1 => ?_) (fun H1 Q1 q1 => ?_) (fun H' e1 e2 => k c H' e1 ⟨dx, e2⟩)
    · walk_at "zz"
      refine z_divN hc0 hc (by decide) (by decide) ?_
      unfold rt at q1
      rw [e] at q1
      exact q1
    · walk_at "zz"
      refine z_divN hc0 hc (by decide) (by decide) ?_
      unfold rb at q1
      rw [e] at q1
      exact q1
theorem c_RatioD_initD (L : Lw K mg) : Mak P w K mg base 1 "Ratio" (He.ga K "Ratio") (sp3 (fs_rinit K)) [] := by
  obtain ⟨fd, F⟩ := L.d_RatioD_initD
  obtain ⟨ds, vds, bds⟩ := F.binds1 (ps := ["self", "top", "bottom"]) 3 1 (by intro z; cases z) rfl (fun _ _ _ _ _ _ _ us its hl hi => match us, its, hl, hi with | [_, _, _], [_], _, _ => ⟨_, rfl, rfl⟩)
  exact ⟨⟨_, fd, ["self", "top", "bottom"], ds, L.mk_Ratio, ok_RatioD_initD L F, L.g_Ratio, bds, vds⟩⟩
theorem c1_RatioD_initD (L : Lw K mg) : Mak P w K mg base 1 "Ratio" (He.ga K "Ratio") (sp3 (fs_rinit K)) [V.int 1] := by
  obtain ⟨fd, F⟩ := L.d_RatioD_initD
  obtain ⟨ds, vds, bds⟩ := F.binds1 (ps := ["self", "top", "bottom"]) 2 0 (by intro z; cases z) rfl (fun _ _ _ _ _ _ _ us its hl hi => match us, its, hl, hi with | [_, _], [_], _, _ => ⟨_, rfl, rfl⟩)
  exact ⟨⟨_, fd, ["self", "top", "bottom"], ds, L.mk_Ratio, ok_RatioD_initD L F, L.g_Ratio, bds, vds⟩⟩
end
end T
set_option maxHeartbeats 4000000
namespace T
open PySem PySem.Spec PyProof.Rows L2 Z
local macro_rules | `(tactic| walk_at "up") => `(tactic| first
  | assumption
  | (refine' IsR.mono (by assumption) ?zup; case zup => walk_at "up")
  | (refine' IsE.mono (by assumption) ?zup; case zup => walk_at "up")
  | (refine' Same.at (by assumption) ?zup; case zup => walk_at "up")
  | (refine' SqL.of ?zup; case zup => walk_at "up")
  | (refine' L2.Same.seq (by assumption) ?zup; case zup => walk_at "up"))
local macro_rules | `(tactic| walk_at "z") => `(tactic| first
  | ((with_reducible refine' z_var ?zvh ?_); (case zvh => exact rfl))
  | with_reducible refine z_c ?_
  | with_reducible refine z_cons ?_
  | with_reducible refine z_nil ?_
  | with_reducible refine z_op ?_
  | with_reducible refine z_nx ?_
  | with_reducible refine z_seq ?_
  | with_reducible refine z_asg ?_
  | with_reducible refine z_asgG ?_
  | with_reducible refine z_call ?_
  | with_reducible refine z_sq0 ?_
  | with_reducible refine z_sq1 ?_
  | with_reducible refine z_ifS ?_
  | with_reducible refine z_test ?_
  | with_reducible refine z_tb ?_
  | with_reducible refine z_bl ?_
  | with_reducible refine z_blI ?_
  | with_reducible refine z_ret ?_
  | with_reducible refine z_rt ?_
  | with_reducible refine z_T ?_
  | with_reducible refine z_F ?_
  | with_reducible refine z_add ?_
  | with_reducible refine z_sub ?_
  | with_reducible refine z_neg ?_
  | with_reducible refine z_un ?_
  | with_reducible refine z_eqI ?_
  | with_reducible refine z_neI ?_
  | with_reducible refine z_lt ?_
  | with_reducible refine z_le ?_
  | with_reducible refine z_gt ?_
  | with_reducible refine z_ge ?_
  | with_reducible refine z_not ?_
  | with_reducible refine z_and ?_
  | with_reducible refine z_or ?_
  | with_reducible refine z_andV ?_
  | with_reducible refine z_orV ?_
  | with_reducible refine z_notV ?_
  | with_reducible refine z_if ?_
  | with_reducible refine z_cb ?_
  | with_reducible refine z_int1 ?_
  | with_reducible refine z_intb ?_
  | with_reducible refine z_abs ?_
  | with_reducible refine z_gcd ?_
  | with_reducible refine z_isi_ii ?_
  | with_reducible refine z_isi_ib ?_
  | with_reducible refine z_next ?_
  | with_reducible refine z_drop ?_
  | with_reducible refine z_par ?_
  | with_reducible refine z_par2 ?_
  | with_reducible refine z_tupN ?_
  | with_reducible refine z_lstN ?_
  | ((with_reducible refine' z_nt ?zl1 ?_); (case zl1 => exact Nat.le_of_ble_eq_true rfl); intro p H' hp hs he)
  | ((with_reducible refine' z_gtup ?zl1 ?zl2 ?_); (case zl1 => walk_at "up"); (case zl2 => exact rfl))
  | with_reducible refine z_bk ?_
  | with_reducible refine z_ct ?_
  | with_reducible refine z_break ?_
  | with_reducible refine z_cont ?_
  | with_reducible refine z_retN ?_
  | with_reducible refine z_nn ?_
  | with_reducible refine z_mk ?_
  | with_reducible refine z_gn ?_
  | with_reducible refine z_gcons ?_
  | with_reducible refine z_gnil ?_
  | with_reducible refine z_mt ?_
  | with_reducible refine z_mko ?_
  | with_reducible refine z_for2 ?_
  | with_reducible refine z_ownI ?_
  | ((with_reducible refine' z_lenL ?zl1 ?_); (case zl1 => walk_at "up"))
  | ((with_reducible refine' z_ixT ?zl1 ?zl2 ?_); (case zl1 => walk_at "up"); (case zl2 => exact rfl))
  | ((with_reducible refine' z_mulL ?zl1 ?zl2 ?_); (case zl1 => omega); (case zl2 => omega))
  | ((with_reducible refine' z_mulR ?zl1 ?zl2 ?_); (case zl1 => omega); (case zl2 => omega))
  | ((with_reducible refine' z_divS ?zl1 ?zl2 ?_); (case zl1 => omega); (case zl2 => omega))
  | ((with_reducible refine' z_mulW ?zl1 ?zl2 ?zl3 ?zl4 ?_); (case zl1 => omega); (case zl2 => omega); (case zl3 => omega); (case zl4 => omega))
  | ((with_reducible refine' z_divW ?zl1 ?zl2 ?_); (case zl1 => omega); (case zl2 => omega)))
local macro_rules | `(tactic| walk_at "zz") => `(tactic| repeat (walk_at "z"))
local macro_rules | `(tactic| walk_at "z") => `(tactic| with_reducible refine z_lstN ?_)
local macro_rules | `(tactic| walk_at "z") => `(tactic| with_reducible refine z_p6 ?_)
local macro_rules | `(tactic| walk_at "z") => `(tactic| with_reducible refine z_p12 ?_)
local macro_rules | `(tactic| walk_at "z") => `(tactic| with_reducible refine z_p13 ?_)
local macro_rules | `(tactic| walk_at "z") => `(tactic| with_reducible refine z_calln ?_)
local macro_rules | `(tactic| walk_at "z") => `(tactic| with_reducible refine z_xfS ?_)
local macro_rules | `(tactic| walk_at "z") => `(tactic| with_reducible refine z_lcS ?_)
local macro_rules | `(tactic| walk_at "z") => `(tactic| with_reducible refine z_lcRS ?_)
local macro_rules | `(tactic| walk_at "z") => `(tactic| with_reducible refine z_lcZS ?_)
local macro_rules | `(tactic| walk_at "z") => `(tactic| with_reducible refine z_foS ?_)
local macro_rules | `(tactic| walk_at "z") => `(tactic| with_reducible refine z_for1 ?_)
local macro_rules | `(tactic| walk_at "z") => `(tactic| with_reducible refine z_tsl ?_)
local macro_rules | `(tactic| walk_at "z") => `(tactic| with_reducible refine z_np ?_)
local macro_rules | `(tactic| walk_at "z") => `(tactic| with_reducible refine z_pt ?_)
local macro_rules | `(tactic| walk_at "z") => `(tactic| with_reducible refine z_pti ?_)
local macro_rules | `(tactic| walk_at "z") => `(tactic| with_reducible refine z_catI ?_)
local macro_rules | `(tactic| walk_at "z") => `(tactic| with_reducible refine z_isNI ?_)
local macro_rules | `(tactic| walk_at "z") => `(tactic| with_reducible refine z_isNN ?_)
local macro_rules | `(tactic| walk_at "z") => `(tactic| with_reducible refine z_notNI ?_)
local macro_rules | `(tactic| walk_at "z") => `(tactic| with_reducible refine z_notNN ?_)
local macro_rules | `(tactic| walk_at "z") => `(tactic| with_reducible refine z_gsub ?_)
local macro_rules | `(tactic| walk_at "z") => `(tactic| with_reducible refine z_isNb ?_)
local macro_rules | `(tactic| walk_at "z") => `(tactic| with_reducible refine z_notNb ?_)
local macro_rules | `(tactic| walk_at "z") => `(tactic| ((with_reducible refine' z_nlR ?zl1 ?_); (case zl1 => exact Nat.le_of_ble_eq_true rfl); intro p H' hp hs he))
local macro_rules | `(tactic| walk_at "z") => `(tactic| ((with_reducible refine' z_repR ?zl1 ?zl2 ?_); (case zl1 => omega); (case zl2 => omega)))
local macro_rules | `(tactic| walk_at "z") => `(tactic| ((with_reducible refine' z_repL ?zl1 ?zl2 ?_); (case zl1 => omega); (case zl2 => omega)))
local macro_rules | `(tactic| walk_at "z") => `(tactic| ((with_reducible refine' z_lenLst ?zl1 ?_); (case zl1 => walk_at "up")))
local macro_rules | `(tactic| walk_at "z") => `(tactic| ((with_reducible refine' z_cat ?zl1 ?zl2 ?zl3 ?_); (case zl1 => walk_at "up"); (case zl2 => walk_at "up"); (case zl3 => (simp only [List.length_map, List.length_cons, List.length_nil, List.length_append, List.length_replicate]; omega)); intro p H' hp hs he))
local macro_rules | `(tactic| walk_at "z") => `(tactic| with_reducible refine z_sfl ?_)
local macro_rules | `(tactic| walk_at "z") => `(tactic| with_reducible refine z_lcES ?_)
local macro_rules | `(tactic| walk_at "z") => `(tactic| with_reducible refine z_lcMS ?_)
local macro_rules | `(tactic| walk_at "z") => `(tactic| with_reducible refine z_foES ?_)
local macro_rules | `(tactic| walk_at "z") => `(tactic| with_reducible refine z_fo3S ?_)
local macro_rules | `(tactic| walk_at "z") => `(tactic| with_reducible refine z_sta ?_)
local macro_rules | `(tactic| walk_at "z") => `(tactic| with_reducible refine z_sta1 ?_)
local macro_rules | `(tactic| walk_at "z") => `(tactic| ((with_reducible refine' z_fldt ?zc1 ?zc2 ?zl1 ?zl2 ?_); (case zc1 => exact Lw.cl_Ratio (by assumption)); (case zc2 => exact Lw.na_Ratio_top (by assumption)); (case zl1 => exact rfl); (case zl2 => walk_at "up")))
local macro_rules | `(tactic| walk_at "z") => `(tactic| ((with_reducible refine' z_fldb ?zc1 ?zc2 ?zl1 ?zl2 ?_); (case zc1 => exact Lw.cl_Ratio (by assumption)); (case zc2 => exact Lw.na_Ratio_bottom (by assumption)); (case zl1 => exact rfl); (case zl2 => walk_at "up")))
theorem same30b {H H1 H2 : Hp} (h : Same H1 H2) (e : Same H H1) : Same H H2 := e.trans h
local macro_rules | `(tactic| walk_at "sm") => `(tactic| first
  | assumption
  | exact fun _ _ h => h
  | (refine' same30b (by assumption) ?zsm; case zsm => walk_at "sm"))
local macro_rules | `(tactic| walk_at "up") => `(tactic| first
  | assumption
  | (with_reducible refine' IsR.mono (by assumption) ?zup; case zup => walk_at "up")
  | (with_reducible refine' Same.at (by assumption) ?zup; case zup => walk_at "up")
  | fail)
open S31 (cf)
open S30
theorem rt_bits {n d : Int} {b : Nat} (hd : 0 < d) (h : Bits b n) : Bits b (rt n d) := by
  rw [(rt_pos hd).1]
  exact h.div
theorem rb_bits {n d : Int} {b : Nat} (hd : 0 < d) (h : Bits b d) : Bits b (rb n d) := by
  rw [(rt_pos hd).2]
  exact h.div
theorem rt_val {n d : Int} {v : Rat} (hd : 0 < d) (h : (n : Rat) = v * d) : (rt n d : Rat) = v * (rb n d : Rat) := by
  obtain ⟨_, _, e⟩ := rt_spec (n := n) hd
  have e2 : (rt n d : Rat) * d = n * (rb n d : Rat) := by rw [← Rat.intCast_mul, ← Rat.intCast_mul, e]
  have := ne_cast (show d ≠ 0 by omega)
  rw [h] at e2
  grind
/-- a Ratio with the value v -/
def IsV (K : Frag) (H : Hp) (p : Addr) (v : Rat) (B : Nat) : Prop := ∃ t b : Int, IsR K H p t b ∧ 0 < b ∧ Bits B t ∧ Bits B b ∧ (t : Rat) = v * (b : Rat)
theorem IsR.monoN {K : Frag} {H H' : Hp} {a : Addr} {t b : Int} (s : SameN H H') (h : IsR K H a t b) : IsR K H' a t b := h.elim fun dx q => ⟨dx, s _ _ q (fun _ z => nomatch z)⟩
theorem IsV.monoN {K : Frag} {H H' : Hp} {p : Addr} {v : Rat} {B : Nat} (s : SameN H H') (h : IsV K H p v B) : IsV K H' p v B := by
  obtain ⟨t, b, h1, h⟩ := h
  exact ⟨t, b, IsR.monoN s h1, h⟩
theorem IsV.mono {K : Frag} {H H' : Hp} {p : Addr} {v : Rat} {B : Nat} (s : Same H H') (h : IsV K H p v B) : IsV K H' p v B := h.monoN (SameN.of s)
/-- lists of Ratios, of pairs -/
def itR (K : Frag) (v : Sq) (B : Nat) : Hp → V → Nat → Prop := fun H x k => ∃ a, x = .ref a ∧ IsV K H a (v k) B
def itP (v : Sq) (B : Nat) : Hp → V → Nat → Prop := fun H x k => ∃ (a : Addr) (t b : Int), x = .ref a ∧ H a = some (.tup [.int t, .int b]) ∧ 0 < b ∧ Bits B t ∧ Bits B b ∧ (t : Rat) = v k * (b : Rat)
theorem itR_mono {K : Frag} {v : Sq} {B : Nat} : Mono (itR K v B) := fun H H' x k s h => by
  obtain ⟨a, e, h⟩ := h
  exact ⟨a, e, h.monoN s⟩
theorem itP_mono {v : Sq} {B : Nat} : Mono (itP v B) := fun H H' x k s h => by
  obtain ⟨a, t, b, e, h, r⟩ := h
  exact ⟨a, t, b, e, s _ _ h (fun _ z => nomatch z), r⟩
def RL (K : Frag) (H : Hp) (l : Addr) (n : Nat) (v : Sq) (B : Nat) : Prop := Ls H l n (itR K v B)
def PL (H : Hp) (l : Addr) (n : Nat) (v : Sq) (B : Nat) : Prop := Ls H l n (itP v B)
theorem RL.mono {K : Frag} {H H' : Hp} {l : Addr} {n : Nat} {v : Sq} {B : Nat} (s : Same H H') (h : RL K H l n v B) : RL K H' l n v B := Ls.mono itR_mono s h
theorem PL.mono {H H' : Hp} {l : Addr} {n : Nat} {v : Sq} {B : Nat} (s : Same H H') (h : PL H l n v B) : PL H' l n v B := Ls.mono itP_mono s h
/-- a Poly of the numbers ls over o -/
def IsQ (K : Frag) (H : Hp) (p : Addr) (ls : List Int) (o : Int) : Prop := ∃ (dx t : Addr), H p = some (.ins (He.ga K "Poly") dx [("numbers", .ref t), ("over", .int o), ("degree", .int ((ls.length : Int) - 1))]) ∧ H t = some (.tup (ls.map V.int))
theorem IsQ.mono {K : Frag} {H H' : Hp} {p : Addr} {ls : List Int} {o : Int} (s : Same H H') (h : IsQ K H p ls o) : IsQ K H' p ls o := by
  obtain ⟨dx, t, h1, h2⟩ := h
  exact ⟨dx, t, s _ _ h1, s _ _ h2⟩
def fs_cn (K : Frag) : F3 := fun a b c H Q E => ∃ v l : Int, a = .int v ∧ b = .int l ∧ (c = .non ∨ ∃ h, c = .int h) ∧
  ((l ≤ v ∧ ∀ h, c = .int h → v ≤ h) → Q .non H) ∧ (¬ (l ≤ v ∧ ∀ h, c = .int h → v ≤ h) → ∀ d H', Same H H' → H' d = some (.xd [("value", .int v)]) → E (.ref (He.ga K "OutOfBounds")) (some d) H')
def fs_cs (K : Frag) : F3 := fun a b c H Q E => ∃ (p : Addr) (xs : List V) (l h : Int), a = .ref p ∧ b = .int l ∧ c = .int h ∧ (H p = some (.lst xs) ∨ H p = some (.tup xs)) ∧
  ((l ≤ xs.length ∧ (xs.length : Int) ≤ h) → Q .non H) ∧ (¬ (l ≤ xs.length ∧ (xs.length : Int) ≤ h) → ∀ d H', Same H H' → H' d = some (.xd [("size", .int (xs.length : Int))]) → E (.ref (He.ga K "BadSize")) (some d) H')
section
variable {P : Program} {w : World} {K : Frag} {mg : Str → Option Value} {base : Heap}
theorem ok_OutOfBoundsD_initD (L : Lw K mg) {fd : FuncData} (F : FunD K "__init__" "OutOfBounds.__init__" (defArgs s_OutOfBoundsD_initD) (defBody s_OutOfBoundsD_initD) (defScope s_OutOfBoundsD_initD) (df_OutOfBoundsD_initD.dvs K) (df_OutOfBoundsD_initD.kws K) (He.fAd K ("OutOfBounds", some "__init__")) fd) : FnOk P w K mg base (L2N.CX P w) 1 (He.fAd K ("OutOfBounds", some "__init__")) fd (["self", "value"] : List Str) (sp2 (fs_ex1 K "OutOfBounds" "value")) := by
  refine FunD.ok F sc_OutOfBoundsD_initD len2 (fun cdv A outer s H vs Q E hr h => ?_)
  obtain ⟨a, b, rfl, h⟩ := h
  refine ⟨_, (pss_one (ps_ost (pv 0) (pv 1))), ?_⟩
  obtain ⟨e, H0, rfl, rfl, h0, k⟩ := h
  exact run_ex1 (L.ox_OutOfBounds).1 L.na_OutOfBounds_value h0 rfl rfl k
theorem c_OutOfBoundsD_initD (L : Lw K mg) : MakX P w K mg base 1 "OutOfBounds" (He.ga K "OutOfBounds") (sp2 (fs_ex1 K "OutOfBounds" "value")) := by
  obtain ⟨fd, F⟩ := L.d_OutOfBoundsD_initD
  exact ⟨⟨_, fd, ["self", "value"], (L.ox_OutOfBounds).1, (L.ox_OutOfBounds).2.1, (L.ox_OutOfBounds).2.2, ok_OutOfBoundsD_initD L F, L.g_OutOfBounds, F.bindsN (fun _ _ _ _ _ _ us hl => match us, hl with | [_, _], _ => rfl)⟩⟩
theorem ok_BadSizeD_initD (L : Lw K mg) {fd : FuncData} (F : FunD K "__init__" "BadSize.__init__" (defArgs s_BadSizeD_initD) (defBody s_BadSizeD_initD) (defScope s_BadSizeD_initD) (df_BadSizeD_initD.dvs K) (df_BadSizeD_initD.kws K) (He.fAd K ("BadSize", some "__init__")) fd) : FnOk P w K mg base (L2N.CX P w) 1 (He.fAd K ("BadSize", some "__init__")) fd (["self", "size"] : List Str) (sp2 (fs_ex1 K "BadSize" "size")) := by
  refine FunD.ok F sc_BadSizeD_initD len2 (fun cdv A outer s H vs Q E hr h => ?_)
  obtain ⟨a, b, rfl, h⟩ := h
  refine ⟨_, (pss_one (ps_ost (pv 0) (pv 1))), ?_⟩
  obtain ⟨e, H0, rfl, rfl, h0, k⟩ := h
  exact run_ex1 (L.ox_BadSize).1 L.na_BadSize_size h0 rfl rfl k
theorem c_BadSizeD_initD (L : Lw K mg) : MakX P w K mg base 1 "BadSize" (He.ga K "BadSize") (sp2 (fs_ex1 K "BadSize" "size")) := by
  obtain ⟨fd, F⟩ := L.d_BadSizeD_initD
  exact ⟨⟨_, fd, ["self", "size"], (L.ox_BadSize).1, (L.ox_BadSize).2.1, (L.ox_BadSize).2.2, ok_BadSizeD_initD L F, L.g_BadSize, F.bindsN (fun _ _ _ _ _ _ us hl => match us, hl with | [_, _], _ => rfl)⟩⟩
theorem ok_check_number (L : Lw K mg) {fd : FuncData} (F : FunD K "check_number" "check_number" (defArgs s_check_number) (defBody s_check_number) (defScope s_check_number) (df_check_number.dvs K) (df_check_number.kws K) (He.fAd K ("check_number", none)) fd) : FnOk P w K mg base (L2N.CX P w) 3 (He.fAd K ("check_number", none)) fd (["value", "low", "high"] : List Str) (sp3 (fs_cn K)) := by
  refine FunD.ok F sc_check_number len3 (fun cdv A outer s H vs Q E hr h => ?_)
  obtain ⟨a, b, c, rfl, h⟩ := h
  refine ⟨_, (pss_one (ps_if (PW.pt (pw_or (pt_cmpR o_lt (pv 0) (pv 1) (nomark _)) (pw_or1 (PW.pt (pw_and (pt_cmpR o_notN (pv 2) pe_non (nomark _)) (pw_and1 (pt_cmpR o_gt (pv 0) (pv 2) (nomark _)))))))) (pss_one (L2N.ps_raise rfl (L2N.takes_of rfl rfl rfl rfl) (pmk_x (c_OutOfBoundsD_initD (K := K) L) hr (by decide) passF (pa_cons (pv 0) pa_nil)))) pss_nil)), ?_⟩
  obtain ⟨v, l, rfl, rfl, hc, k, kx⟩ := h
  walk_at "zz"
  refine z_d2 (fun c => ?_) (fun c => ?_)
  · walk_at "zz"
    exact z_exo1 (kx (by omega))
  · rcases hc with rfl | ⟨h, rfl⟩
    · walk_at "zz"
      exact k ⟨by omega, fun h e => by cases e⟩
    · walk_at "zz"
      refine z_d2 (fun c2 => ?_) (fun c2 => ?_)
      · walk_at "zz"
        exact z_exo1 (kx (fun z => absurd (z.2 h rfl) (by omega)))
      · walk_at "zz"
        exact k ⟨by omega, fun h' e => by cases e; omega⟩
theorem c_check_number (L : Lw K mg) : Cal P w K mg base 3 "check_number" (sp3 (fs_cn K)) [] := by
  obtain ⟨fd, F⟩ := L.d_check_number
  obtain ⟨ds, vds, bds⟩ := F.binds1 (ps := ["value", "low", "high"]) 3 1 (by intro z; cases z) rfl (fun _ _ _ _ _ _ _ us its hl hi => match us, its, hl, hi with | [_, _, _], [_], _, _ => ⟨_, rfl, rfl⟩)
  exact ⟨⟨_, fd, ["value", "low", "high"], ds, ok_check_number L F, L.g_check_number, F.kp, bds, vds⟩⟩
theorem c1_check_number (L : Lw K mg) : Cal P w K mg base 3 "check_number" (sp3 (fs_cn K)) [V.non] := by
  obtain ⟨fd, F⟩ := L.d_check_number
  obtain ⟨ds, vds, bds⟩ := F.binds1 (ps := ["value", "low", "high"]) 2 0 (by intro z; cases z) rfl (fun _ _ _ _ _ _ _ us its hl hi => match us, its, hl, hi with | [_, _], [_], _, _ => ⟨_, rfl, rfl⟩)
  exact ⟨⟨_, fd, ["value", "low", "high"], ds, ok_check_number L F, L.g_check_number, F.kp, bds, vds⟩⟩
theorem ok_check_size (L : Lw K mg) {fd : FuncData} (F : FunD K "check_size" "check_size" (defArgs s_check_size) (defBody s_check_size) (defScope s_check_size) (df_check_size.dvs K) (df_check_size.kws K) (He.fAd K ("check_size", none)) fd) : FnOk P w K mg base (L2N.CX P w) 3 (He.fAd K ("check_size", none)) fd (["things", "low", "high"] : List Str) (sp3 (fs_cs K)) := by
  refine FunD.ok F sc_check_size len3 (fun cdv A outer s H vs Q E hr h => ?_)
  obtain ⟨a, b, c, rfl, h⟩ := h
  refine ⟨_, (pss_cons (ps_set (i := 3) sc_check_size.nd rfl (by first | exact Or.inl rfl | exact Or.inr rfl) (pe_callB (callK rLen1 (K := K) rfl o_len) (by rfl) L.f_len (by decide +kernel) (pa_cons (pv 0) pa_nil)))
    (pss_one (ps_if (PW.pt (pw_or (pt_cmpR o_lt (pv 3) (pv 1) (nomark _)) (pw_or1 (pt_cmpR o_gt (pv 3) (pv 2) (nomark _))))) (pss_one (L2N.ps_raise rfl (L2N.takes_of rfl rfl rfl rfl) (pmk_x (c_BadSizeD_initD (K := K) L) hr (by decide) passF (pa_cons (pv 3) pa_nil)))) pss_nil))), ?_⟩
  obtain ⟨p, xs, l, h, rfl, rfl, rfl, hp, k, kx⟩ := h
  rcases hp with hp | hp
  · walk_at "zz"
    refine z_d2 (fun c => ?_) (fun c => ?_)
    · walk_at "zz"
      exact z_exo1 (kx (by omega))
    · walk_at "zz"
      refine z_d2 (fun c2 => ?_) (fun c2 => ?_)
      · walk_at "zz"
        exact z_exo1 (kx (by omega))
      · walk_at "zz"
        exact k (by omega)
  · walk_at "zz"
    refine z_lenT hp ?_
    walk_at "zz"
    refine z_d2 (fun c => ?_) (fun c => ?_)
    · walk_at "zz"
      exact z_exo1 (kx (by omega))
    · walk_at "zz"
      refine z_d2 (fun c2 => ?_) (fun c2 => ?_)
      · walk_at "zz"
        exact z_exo1 (kx (by omega))
      · walk_at "zz"
        exact k (by omega)
theorem c_check_size (L : Lw K mg) : Cal P w K mg base 3 "check_size" (sp3 (fs_cs K)) [] := by
  obtain ⟨fd, F⟩ := L.d_check_size
  exact ⟨⟨_, fd, ["things", "low", "high"], [], ok_check_size L F, L.g_check_size, F.kp, F.bindsN (fun _ _ _ _ _ _ us hl => match us, hl with | [_, _, _], _ => rfl), .nil⟩⟩
end
def fs_low : F2 := fun a b H Q _ => ∃ (p : Addr) (ns : List Int) (o : Int), a = .ref p ∧ b = .int o ∧ H p = some (.lst (ns.map V.int)) ∧ ns.length ≤ 16777216 ∧ 1 ≤ o ∧ Bits 8999 o ∧
  ∀ t q H' ls o', Same H H' → H' t = some (.tup [.ref q, .int o']) → H' q = some (.tup (ls.map V.int)) → LowT ns o ls o' → Q (.ref t) H'
section
variable {P : Program} {w : World} {K : Frag} {mg : Str → Option Value} {base : Heap}
theorem ok_lowest_terms (L : Lw K mg) {fd : FuncData} (F : FunD K "lowest_terms" "lowest_terms" (defArgs s_lowest_terms) (defBody s_lowest_terms) (defScope s_lowest_terms) (df_lowest_terms.dvs K) (df_lowest_terms.kws K) (He.fAd K ("lowest_terms", none)) fd) : FnOk P w K mg base (L2N.CX P w) 1 (He.fAd K ("lowest_terms", none)) fd (["numbers", "over"] : List Str) (sp2 fs_low) := by
  refine FunD.ok F sc_lowest_terms len2 (fun cdv A outer s H vs Q E hr h => ?_)
  obtain ⟨a, b, rfl, h⟩ := h
  refine ⟨_, (pss_cons (ps_set (i := 2) sc_lowest_terms.nd rfl (by first | exact Or.inl rfl | exact Or.inr rfl) (pe_callB (callK rLen1 (K := K) rfl o_len) (by rfl) L.f_len (by decide +kernel) (pa_cons (pv 0) pa_nil)))
    (pss_cons (ps_while (passes_of rfl) (PW.pt (pw_and (pt_cmpR o_gt (pv 2) pe_int (nomark _)) (pw_and1 (pt_cmpR op_eq (pe_ix (ix_seqK (K := K) rfl) (pv 0) (pe_op o_sub (pv 2) pe_int) (fun _ _ => rfl)) pe_int (nomark _))))) (pss_one (ps_set (i := 2) sc_lowest_terms.nd rfl (by first | exact Or.inl rfl | exact Or.inr rfl) (pe_op o_sub (pv 2) pe_int))))
    (pss_cons (ps_if (pt_cmpR op_eq (pv 2) pe_int (nomark _)) (pss_one (ps_ret (pe_tup (pa_cons (pe_tup pa_nil) (pa_cons pe_int pa_nil))))) pss_nil)
    (pss_cons (ps_set (i := 3) sc_lowest_terms.nd rfl (by first | exact Or.inl rfl | exact Or.inr rfl) (pe_callB o_abs (by rfl) L.f_abs (by decide +kernel) (pa_cons (pv 1) pa_nil)))
    (pss_cons (ps_for (passes_of rfl) rfl (pi_listK (K := K) rfl (pe_slice (slK rSlL (K := K) rfl sl_list) (pv 0) po_none (po_some (pv 2)))) (pg_name (i := 4) sc_lowest_terms.nd rfl (by first | exact Or.inl rfl | exact Or.inr rfl)) (pss_one (ps_set (i := 3) sc_lowest_terms.nd rfl (by first | exact Or.inl rfl | exact Or.inr rfl) (pe_callBfun cr_gcd rfl L.v_gcd (pa_cons (pv 3) (pa_cons (pv 4) pa_nil))))))
    (pss_cons (ps_if (pt_cmpR o_lt (pv 1) pe_int (nomark _)) (pss_one (ps_set (i := 3) sc_lowest_terms.nd rfl (by first | exact Or.inl rfl | exact Or.inr rfl) (pe_un o_neg (pv 3)))) pss_nil)
    (pss_one (ps_ret (pe_tup (pa_cons (pe_callTy (callK rTup1 (K := K) rfl call_tuple_of) (by rfl) L.f_tuple (by decide +kernel) (pa_cons (pe_lc (own := [("number", 4)]) (g := (gName 4)) (tt := tYes) rfl sc_lowest_terms.nd (pi_listK (K := K) rfl (pe_slice (slK rSlL (K := K) rfl sl_list) (pv 0) po_none (po_some (pv 2)))) (blkOk_by (N := ["numbers", "over", "size", "common", "number"]) (sc := defScope s_lowest_terms) (by decide +kernel)) (fun _ _ _ _ _ => pg_name (i := 4) sc_lowest_terms.nd rfl (Or.inl rfl)) (fun _ _ _ _ _ => pts_nil) (fun _ _ _ _ _ => (pe_op o_div (pv 4) (pv 3)))) pa_nil)) (pa_cons (pe_op o_div (pv 1) (pv 3)) pa_nil))))))))))), ?_⟩
  obtain ⟨p, ns, o, rfl, rfl, hp, hl, o1, o2, k⟩ := h
  walk_at "zz"
  refine ⟨fun m σ' H' => ∃ s : Nat, σ' = [some (.ref p), some (.int o), some (.int s), none, none] ∧ H' = H ∧ m = s ∧ s ≤ ns.length ∧ ∀ k, s ≤ k → S31.cf ns k = 0, ⟨_, ns.length, ?_, rfl, rfl, Nat.le_refl _, fun k hk => S31.cf_out hk⟩, ?_⟩
  · rw [List.length_map]
    rfl
  rintro m σ' H' ⟨sz, rfl, rfl, em, hs, hz⟩
  walk_at "zz"
  refine z_d2 (fun c => ?_) (fun c => ?_)
  · have hs1 : (((sz : Nat) : Int) - 1).toNat = sz - 1 := by omega
    have hin : sz - 1 < ns.length := by omega
    walk_at "zz"
    refine z_ixL (SqL.of hp) (at_int (v := S31.cf ns (sz - 1)) (by omega) (by rw [hs1, S31.cf_in hin]; exact List.getElem?_eq_getElem hin)) ?_
    walk_at "zz"
    refine z_d2 (fun c2 => ?_) (fun c2 => ?_)
    · refine ⟨_, fun _ _ h => h, ?_⟩
      walk_at "zz"
      refine ⟨sz - 1, by omega, sz - 1, ?_, rfl, rfl, by omega, fun k hk => ?_⟩
      · have e : ((sz : Nat) : Int) - 1 = ((sz - 1 : Nat) : Int) := by omega
        rw [e]
        rfl
      · by_cases e : k = sz - 1
        · rw [e]
          exact c2
        · exact hz k (by omega)
    · obtain ⟨s, rfl⟩ : ∃ s, sz = s + 1 := ⟨sz - 1, by omega⟩
      rw [Nat.add_sub_cancel] at c2
      walk_at "zz"
      refine z_dF (by omega) ?_
      walk_at "zz"
      have ho : ((o.natAbs : Nat) : Int) = o := by omega
      rw [ho]
      refine z_sll hp (fun p2 H2 hp2 s2 e2 => ?_)
      rw [cut_hi, ← List.map_take] at e2
      have lw := lowt_of (show 0 < o by omega) hs hz c2
      have gb := gl_bits (ns := ns.take (s + 1)) (show 0 < o by omega)
      have g0 := S31.gl_pos (c := o) (by omega) (ns.take (s + 1))
      refine z_foV e2 (fun k σ' H' => ∃ x, σ' = [some (.ref p), some (.int o), some (.int ((s + 1 : Nat) : Int)), some (.int (S31.gl o ((ns.take (s + 1)).take k))), x] ∧ H' = H2) ⟨none, by rw [List.take_zero]; rfl, rfl⟩ (fun k σ' H' z => by obtain ⟨x, _, rfl⟩ := z; exact e2) ?_ ?_
      · rintro k x σ' H' hx ⟨y, rfl, rfl⟩
        rw [List.getElem?_map] at hx
        have hk : k < (ns.take (s + 1)).length := by
          by_cases q : k < (ns.take (s + 1)).length
          · exact q
          · rw [List.getElem?_eq_none (by omega)] at hx
            cases hx
        rw [List.getElem?_eq_getElem hk] at hx
        have hx' : V.int (ns.take (s + 1))[k] = x := Option.some.inj hx
        subst hx'
        walk_at "zz"
        refine ⟨some (.int (ns.take (s + 1))[k]), ?_, rfl⟩
        rw [List.take_succ_eq_append_getElem hk, S31.gl_snoc]
        rfl
      · rintro σ' H' ⟨x, rfl, rfl⟩
        have el : (ns.take (s + 1)).take ((ns.take (s + 1)).map V.int).length = ns.take (s + 1) := by
          rw [List.length_map, List.take_length]
        rw [el]
        walk_at "zz"
        refine z_dF (by omega) ?_
        walk_at "zz"
        refine z_sll (s2 _ _ hp) (fun p3 H3 hp3 s3 e3 => ?_)
        rw [cut_hi, ← List.map_take] at e3
        refine z_lcI (fun n => V.int (n / S31.gl o (ns.take (s + 1)))) e3 (by rw [List.length_take]; omega) (fun n H4 N hn s4 c4 => ⟨rfl, ?_⟩) (fun D HD hD sD hl => ?_)
        · walk_at "zz"
          refine z_div g0.1 (Bits.le o2 gb) (by decide) (by decide) ?_
          exact c4 _ (fun _ _ h => h)
        · walk_at "zz"
          refine z_tup1L hl (fun t Ht ht st et => ?_)
          walk_at "zz"
          refine z_div g0.1 (Bits.le o2 gb) (by decide) (by decide) ?_
          walk_at "zz"
          have hm : (ns.take (s + 1)).map (fun n => V.int (n / S31.gl o (ns.take (s + 1)))) = ((ns.take (s + 1)).map fun n => n / S31.gl o (ns.take (s + 1))).map V.int := by rw [List.map_map]; rfl
          rw [hm] at et
          exact k _ _ _ _ _ (by walk_at "sm") (by assumption) (by walk_at "up") lw
  · have s0 : sz = 0 := by omega
    subst s0
    walk_at "zz"
    refine z_dT rfl ?_
    walk_at "zz"
    exact k _ _ _ [] _ (by walk_at "sm") (by assumption) (by walk_at "up") (lowt_nil (by omega) fun k => hz k (Nat.zero_le _))
theorem c_lowest_terms (L : Lw K mg) : Cal P w K mg base 1 "lowest_terms" (sp2 fs_low) [] := by
  obtain ⟨fd, F⟩ := L.d_lowest_terms
  exact ⟨⟨_, fd, ["numbers", "over"], [], ok_lowest_terms L F, L.g_lowest_terms, F.kp, F.bindsN (fun _ _ _ _ _ _ us hl => match us, hl with | [_, _], _ => rfl), .nil⟩⟩
end
def fs_pinit (K : Frag) : F3 := fun a b c H Q _ => ∃ (x dx q : Addr) (H0 : Hp) (ns : List Int) (o : Int), a = .ref x ∧ b = .ref q ∧ c = .int o ∧ H = upd (upd H0 dx (.own x)) x (.ins (He.ga K "Poly") dx []) ∧ H0 x = none ∧ H0 dx = none ∧ dx ≠ x ∧
  H0 q = some (.lst (ns.map V.int)) ∧ ns.length ≤ 200 ∧ 1 ≤ o ∧ Bits 8999 o ∧ ∀ H' ls o', Same H0 H' → IsQ K H' x ls o' → LowT ns o ls o' → Q .non H'
section
variable {P : Program} {w : World} {K : Frag} {mg : Str → Option Value} {base : Heap}
theorem ok_PolyD_initD (L : Lw K mg) {fd : FuncData} (F : FunD K "__init__" "Poly.__init__" (defArgs s_PolyD_initD) (defBody s_PolyD_initD) (defScope s_PolyD_initD) (df_PolyD_initD.dvs K) (df_PolyD_initD.kws K) (He.fAd K ("Poly", some "__init__")) fd) : FnOk P w K mg base (L2N.CX P w) 4 (He.fAd K ("Poly", some "__init__")) fd (["self", "numbers", "over"] : List Str) (sp3 (fs_pinit K)) := by
  refine FunD.ok F sc_PolyD_initD len3 (fun cdv A outer s H vs Q E hr h => ?_)
  obtain ⟨a, b, c, rfl, h⟩ := h
  refine ⟨_, (pss_cons (ps_expr (pe_c (c_check_size (K := K) L) hr (by decide) (L2N.takes_of rfl rfl rfl rfl) (pa_cons (pv 1) (pa_cons pe_int (pa_cons pe_int pa_nil)))))
    (pss_cons (ps_expr (pe_c (c1_check_number (K := K) L) hr (by decide) (L2N.takes_of rfl rfl rfl rfl) (pa_cons (pv 2) (pa_cons pe_int pa_nil))))
    (pss_cons (ps_asg (pe_c (c_lowest_terms (K := K) L) hr (by decide) (L2N.takes_of rfl rfl rfl rfl) (pa_cons (pv 1) (pa_cons (pv 2) pa_nil))) (pg_tup (by rfl) (pgs_cons (pg_attK (K := K) rfl (pv 0)) (pgs_cons (pg_attK (K := K) rfl (pv 0)) pgs_nil))))
    (pss_one (ps_fld (pv 0) (pe_op o_sub (pe_callB (callK rLen1 (K := K) rfl o_len) (by rfl) L.f_len (by decide +kernel) (pa_cons (pe_fld (pv 0) rfl) pa_nil)) pe_int) rfl))))), ?_⟩
  obtain ⟨x, dx, q, H0, ns, o, rfl, rfl, rfl, rfl, hx, hdx, ne, hq, hl, o1, o2, k⟩ := h
  have sm : Same H0 (upd (upd H0 dx (.own x)) x (.ins (He.ga K "Poly") dx [])) := (Same.put (Same.new hdx) hx)
  have hq' := sm _ _ hq
  have hxx : upd (upd H0 dx (.own x)) x (.ins (He.ga K "Poly") dx []) x = some (.ins (He.ga K "Poly") dx []) := upd_same
  generalize upd (upd H0 dx (.own x)) x (.ins (He.ga K "Poly") dx []) = H at *
  walk_at "zz"
  refine ⟨_, _, _, rfl, q, _, 0, 200, rfl, rfl, rfl, .inl hq', fun _ => ?_, fun z => absurd ⟨by omega, by rw [List.length_map]; omega⟩ z⟩
  walk_at "zz"
  refine ⟨_, _, _, rfl, o, 1, rfl, rfl, .inl rfl, fun _ => ?_, fun z => absurd ⟨o1, fun h e => by cases e⟩ z⟩
  walk_at "zz"
  refine ⟨_, _, rfl, q, ns, o, rfl, rfl, hq', by omega, o1, o2, fun t u H1 ls o' s1 et eu lw => ?_⟩
  walk_at "zz"
  refine z_gfld L.cl_Poly L.na_Poly_numbers rfl (s1 _ _ hxx) (by decide) ?_
  walk_at "zz"
  refine z_gfld L.cl_Poly L.na_Poly_over rfl upd_same (by show 1 < 1000; decide) ?_
  rw [pfN]
  have e1 : putF "over" (.int o') [("numbers", .ref u)] = [(("numbers" : Str), V.ref u), ("over", .int o')] := by
    rw [pfB (by decide +kernel), pfN]
  rw [e1]
  have sx : Same H0 (upd (upd H1 x (.ins (He.ga K "Poly") dx [("numbers", .ref u)])) x (.ins (He.ga K "Poly") dx [("numbers", .ref u), ("over", .int o')])) := Same.put (Same.put (sm.trans s1) hx) hx
  have ux : u ≠ x := fun e => by
    rw [e, s1 _ _ hxx] at eu
    cases eu
  have eu2 : (upd (upd H1 x (.ins (He.ga K "Poly") dx [("numbers", .ref u)])) x (.ins (He.ga K "Poly") dx [("numbers", .ref u), ("over", .int o')])) u = some (.tup (ls.map V.int)) := by
    rw [upd_ne ux, upd_ne ux]
    exact eu
  have ex2 : (upd (upd H1 x (.ins (He.ga K "Poly") dx [("numbers", .ref u)])) x (.ins (He.ga K "Poly") dx [("numbers", .ref u), ("over", .int o')])) x = some (.ins (He.ga K "Poly") dx [("numbers", .ref u), ("over", .int o')]) := upd_same
  generalize (upd (upd H1 x (.ins (He.ga K "Poly") dx [("numbers", .ref u)])) x (.ins (He.ga K "Poly") dx [("numbers", .ref u), ("over", .int o')])) = H2 at *
  walk_at "zz"
  refine z_fldG L.cl_Poly L.na_Poly_numbers rfl ex2 lkA ?_
  walk_at "zz"
  refine z_lenT eu2 ?_
  walk_at "zz"
  refine z_sflp L.cl_Poly L.na_Poly_degree rfl ex2 (by show 2 < 1000; decide) ?_
  rw [pfB (by decide +kernel), pfB (by decide +kernel), pfN, List.length_map]
  walk_at "zz"
  refine k _ ls _ (Same.put sx hx) ⟨dx, u, upd_same, ?_⟩ lw
  rw [upd_ne ux]
  exact eu2
theorem c_PolyD_initD (L : Lw K mg) : Mak P w K mg base 4 "Poly" (He.ga K "Poly") (sp3 (fs_pinit K)) [] := by
  obtain ⟨fd, F⟩ := L.d_PolyD_initD
  obtain ⟨ds, vds, bds⟩ := F.binds1 (ps := ["self", "numbers", "over"]) 3 1 (by intro z; cases z) rfl (fun _ _ _ _ _ _ _ us its hl hi => match us, its, hl, hi with | [_, _, _], [_], _, _ => ⟨_, rfl, rfl⟩)
  exact ⟨⟨_, fd, ["self", "numbers", "over"], ds, L.mk_Poly, ok_PolyD_initD L F, L.g_Poly, bds, vds⟩⟩
theorem c1_PolyD_initD (L : Lw K mg) : Mak P w K mg base 4 "Poly" (He.ga K "Poly") (sp3 (fs_pinit K)) [V.int 1] := by
  obtain ⟨fd, F⟩ := L.d_PolyD_initD
  obtain ⟨ds, vds, bds⟩ := F.binds1 (ps := ["self", "numbers", "over"]) 2 0 (by intro z; cases z) rfl (fun _ _ _ _ _ _ _ us its hl hi => match us, its, hl, hi with | [_, _], [_], _, _ => ⟨_, rfl, rfl⟩)
  exact ⟨⟨_, fd, ["self", "numbers", "over"], ds, L.mk_Poly, ok_PolyD_initD L F, L.g_Poly, bds, vds⟩⟩
end
end T
set_option maxHeartbeats 4000000
namespace T
open PySem PySem.Spec PyProof.Rows L2 Z
open S31 (cf)
open S30
theorem z_repU0 {i j : Int} {a b : Nat} {H : Hp} {Q : VK} (ha : Bits a i) (hb : Bits b j) (h : a + b ≤ 900000) (q : Q (.int (i * j)) H) : zRep (.int i) (.int j) H Q := z_repB (ha.up (Nat.le_succ a)) (hb.up (Nat.le_succ b)) (Nat.succ_pos a) (Nat.succ_pos b) (by omega) q
/-- a Ratio in lowest terms, equal to T / w -/
def Fr (K : Frag) (H : Hp) (a : Addr) (T w : Int) : Prop := ∃ t b : Int, IsR K H a t b ∧ 0 < b ∧ Int.gcd t b = 1 ∧ t * w = T * b
theorem Fr.monoN {K : Frag} {H H' : Hp} {a : Addr} {T w : Int} (s : SameN H H') (h : Fr K H a T w) : Fr K H' a T w := by
  obtain ⟨t, b, h1, h⟩ := h
  exact ⟨t, b, IsR.monoN s h1, h⟩
theorem Fr.mono {K : Frag} {H H' : Hp} {a : Addr} {T w : Int} (s : Same H H') (h : Fr K H a T w) : Fr K H' a T w := h.monoN (SameN.of s)
theorem mul_cancel {x y d : Int} (hd : 0 < d) (e : x * d = y * d) : x = y := Int.eq_of_mul_eq_mul_right (by omega) e
theorem Fr.cast {K : Frag} {H : Hp} {a : Addr} {n d T w : Int} (h : Fr K H a n d) (hd : 0 < d) (e : n * w = T * d) : Fr K H a T w := by
  obtain ⟨t, b, h1, h2, h3, h4⟩ := h
  refine ⟨t, b, h1, h2, h3, mul_cancel hd ?_⟩
  have : t * w * d = (t * d) * w := by grind
  rw [this, h4]
  have : n * b * w = (n * w) * b := by grind
  rw [this, e]
  grind
theorem fr_le {t b T w : Int} (h0 : 0 < b) (g : Int.gcd t b = 1) (w0 : 0 < w) (e : t * w = T * b) : b ≤ w ∧ t.natAbs ≤ T.natAbs ∧ b ∣ w := by
  have d : b.natAbs ∣ t.natAbs * w.natAbs := by
    rw [← Int.natAbs_mul, e, Int.natAbs_mul]
    exact Nat.dvd_mul_left _ _
  have d2 : b.natAbs ∣ w.natAbs := Nat.Coprime.dvd_of_dvd_mul_left (by
    have : Nat.gcd t.natAbs b.natAbs = 1 := g
    rw [Nat.Coprime, Nat.gcd_comm]
    exact this) d
  have d3 : b ∣ w := Int.natAbs_dvd_natAbs.mp d2
  have l : b ≤ w := Int.le_of_dvd w0 d3
  refine ⟨l, ?_, d3⟩
  have e2 : t.natAbs * w.natAbs = T.natAbs * b.natAbs := by rw [← Int.natAbs_mul, e, Int.natAbs_mul]
  have e3 : T.natAbs * b.natAbs ≤ T.natAbs * w.natAbs := Nat.mul_le_mul_left _ (by omega)
  exact Nat.le_of_mul_le_mul_right (by omega : t.natAbs * w.natAbs ≤ T.natAbs * w.natAbs) (by omega)
theorem fr_bits {t b T w : Int} {B C : Nat} (h0 : 0 < b) (g : Int.gcd t b = 1) (w0 : 0 < w) (e : t * w = T * b) (hT : Bits B T) (hw : Bits C w) : Bits B t ∧ Bits C b := by
  obtain ⟨l1, l2, _⟩ := fr_le h0 g w0 e
  exact ⟨hT.le l2, hw.le (by omega)⟩
theorem u_mkF {K : Frag} {H : Hp} {Q : VK} {E : XK} {n d T w : Int} (hd : 0 < d) (h9 : Bits 8999 d) (e : n * w = T * d) (k : ∀ p H', Same H H' → Fr K H' p T w → Q (.ref p) H') :
    zMk (He.ga K "Ratio") (sp3 (fs_rinit K)) [] E [.int n, .int d] H Q :=
  z_mkR (by omega) h9 fun p H' s h => k p H' s (Fr.cast (n := n) (d := d) ⟨_, _, h, rt_spec hd⟩ hd e)
theorem u_mkF1 {K : Frag} {H : Hp} {Q : VK} {E : XK} {n : Int} (k : ∀ p H', Same H H' → Fr K H' p n 1 → Q (.ref p) H') : zMk (He.ga K "Ratio") (sp3 (fs_rinit K)) [.int 1] E [.int n] H Q :=
  z_mkR1 fun p H' s h => k p H' s ⟨n, 1, h, by decide, by simp, rfl⟩
def itF (K : Frag) (T : Nat → Int) (w : Int) : Hp → V → Nat → Prop := fun H x k => ∃ a, x = .ref a ∧ Fr K H a (T k) w
theorem itF_mono {K : Frag} {T : Nat → Int} {w : Int} : Mono (itF K T w) := fun H H' x k s h => by
  obtain ⟨a, e, h⟩ := h
  exact ⟨a, e, h.monoN s⟩
/-- a list or a tuple of n Ratios -/
def FS (K : Frag) (H : Hp) (g : Addr) (xs : List V) (T : Nat → Int) (w : Int) : Prop := Sq2 H g xs ∧ ∀ k x, xs[k]? = some x → itF K T w H x k
theorem FS.mono {K : Frag} {H H' : Hp} {g : Addr} {xs : List V} {T : Nat → Int} {w : Int} (s : Same H H') (h : FS K H g xs T w) : FS K H' g xs T w := ⟨h.1.mono s, fun k x e => itF_mono _ _ _ _ (SameN.of s) (h.2 k x e)⟩
def sm (T : Nat → Int) : Nat → Int
  | 0 => 0
  | n + 1 => sm T n + T n
def fs_fsgn (K : Frag) : F1 := fun a H Q _ => ∃ (p : Addr) (T w : Int), a = .ref p ∧ Fr K H p T w ∧ 0 < w ∧ Q (.int (if T < 0 then -1 else if 0 < T then 1 else 0)) H
theorem fr_neg {t b T w : Int} (h0 : 0 < b) (w0 : 0 < w) (e : t * w = T * b) : (t < 0 ↔ T < 0) ∧ (0 < t ↔ 0 < T) := by
  constructor
  · constructor
    · intro h
      refine Int.not_le.mp fun z => ?_
      have := Int.mul_neg_of_neg_of_pos h w0
      have := Int.mul_nonneg z (show 0 ≤ b by omega)
      omega
    · intro h
      refine Int.not_le.mp fun z => ?_
      have := Int.mul_neg_of_neg_of_pos h h0
      have := Int.mul_nonneg z (show 0 ≤ w by omega)
      omega
  · constructor
    · intro h
      refine Int.not_le.mp fun z => ?_
      have := Int.mul_pos h w0
      have := Int.mul_nonpos_of_nonpos_of_nonneg z (show 0 ≤ b by omega)
      omega
    · intro h
      refine Int.not_le.mp fun z => ?_
      have := Int.mul_pos h h0
      have := Int.mul_nonpos_of_nonpos_of_nonneg z (show 0 ≤ w by omega)
      omega
theorem FS.fn {K : Frag} {H : Hp} {g : Addr} {xs : List V} {T : Nat → Int} {w : Int} (h : FS K H g xs T w) : ∃ ts bs : Nat → Int, ∀ k x, xs[k]? = some x → ∃ a, x = .ref a ∧ IsR K H a (ts k) (bs k) ∧ 0 < bs k ∧ Int.gcd (ts k) (bs k) = 1 ∧ ts k * w = T k * bs k := by
  have q : ∀ k, ∃ p : Int × Int, ∀ x, xs[k]? = some x → ∃ a, x = .ref a ∧ IsR K H a p.1 p.2 ∧ 0 < p.2 ∧ Int.gcd p.1 p.2 = 1 ∧ p.1 * w = T k * p.2 := fun k => by
    cases e : xs[k]? with
    | none => exact ⟨(0, 0), fun x z => nomatch z⟩
    | some x =>
      obtain ⟨a, ex, t, b, h1, h2, h3, h4⟩ := h.2 k x e
      refine ⟨(t, b), fun y z => ?_⟩
      cases z
      exact ⟨a, ex, h1, h2, h3, h4⟩
  obtain ⟨f, hf⟩ := Classical.axiomOfChoice q
  exact ⟨fun k => (f k).1, fun k => (f k).2, fun k x e => hf k x e⟩
end T
set_option maxHeartbeats 4000000
namespace T
open PySem PySem.Spec PyProof.Rows L2 Z
local macro_rules | `(tactic| walk_at "up") => `(tactic| first
  | assumption
  | (refine' IsR.mono (by assumption) ?zup; case zup => walk_at "up")
  | (refine' IsE.mono (by assumption) ?zup; case zup => walk_at "up")
  | (refine' Same.at (by assumption) ?zup; case zup => walk_at "up")
  | (refine' SqL.of ?zup; case zup => walk_at "up")
  | (refine' L2.Same.seq (by assumption) ?zup; case zup => walk_at "up"))
local macro_rules | `(tactic| walk_at "z") => `(tactic| first
  | ((with_reducible refine' z_var ?zvh ?_); (case zvh => exact rfl))
  | with_reducible refine z_c ?_
  | with_reducible refine z_cons ?_
  | with_reducible refine z_nil ?_
  | with_reducible refine z_op ?_
  | with_reducible refine z_nx ?_
  | with_reducible refine z_seq ?_
  | with_reducible refine z_asg ?_
  | with_reducible refine z_asgG ?_
  | with_reducible refine z_call ?_
  | with_reducible refine z_sq0 ?_
  | with_reducible refine z_sq1 ?_
  | with_reducible refine z_ifS ?_
  | with_reducible refine z_test ?_
  | with_reducible refine z_tb ?_
  | with_reducible refine z_bl ?_
  | with_reducible refine z_blI ?_
  | with_reducible refine z_ret ?_
  | with_reducible refine z_rt ?_
  | with_reducible refine z_T ?_
  | with_reducible refine z_F ?_
  | with_reducible refine z_add ?_
  | with_reducible refine z_sub ?_
  | with_reducible refine z_neg ?_
  | with_reducible refine z_un ?_
  | with_reducible refine z_eqI ?_
  | with_reducible refine z_neI ?_
  | with_reducible refine z_lt ?_
  | with_reducible refine z_le ?_
  | with_reducible refine z_gt ?_
  | with_reducible refine z_ge ?_
  | with_reducible refine z_not ?_
  | with_reducible refine z_and ?_
  | with_reducible refine z_or ?_
  | with_reducible refine z_andV ?_
  | with_reducible refine z_orV ?_
  | with_reducible refine z_notV ?_
  | with_reducible refine z_if ?_
  | with_reducible refine z_cb ?_
  | with_reducible refine z_int1 ?_
  | with_reducible refine z_intb ?_
  | with_reducible refine z_abs ?_
  | with_reducible refine z_gcd ?_
  | with_reducible refine z_isi_ii ?_
  | with_reducible refine z_isi_ib ?_
  | with_reducible refine z_next ?_
  | with_reducible refine z_drop ?_
  | with_reducible refine z_par ?_
  | with_reducible refine z_par2 ?_
  | with_reducible refine z_tupN ?_
  | with_reducible refine z_lstN ?_
  | ((with_reducible refine' z_nt ?zl1 ?_); (case zl1 => exact Nat.le_of_ble_eq_true rfl); intro p H' hp hs he)
  | ((with_reducible refine' z_gtup ?zl1 ?zl2 ?_); (case zl1 => walk_at "up"); (case zl2 => exact rfl))
  | with_reducible refine z_bk ?_
  | with_reducible refine z_ct ?_
  | with_reducible refine z_break ?_
  | with_reducible refine z_cont ?_
  | with_reducible refine z_retN ?_
  | with_reducible refine z_nn ?_
  | with_reducible refine z_mk ?_
  | with_reducible refine z_gn ?_
  | with_reducible refine z_gcons ?_
  | with_reducible refine z_gnil ?_
  | with_reducible refine z_mt ?_
  | with_reducible refine z_mko ?_
  | with_reducible refine z_for2 ?_
  | with_reducible refine z_ownI ?_
  | ((with_reducible refine' z_lenL ?zl1 ?_); (case zl1 => walk_at "up"))
  | ((with_reducible refine' z_ixT ?zl1 ?zl2 ?_); (case zl1 => walk_at "up"); (case zl2 => exact rfl))
  | ((with_reducible refine' z_mulL ?zl1 ?zl2 ?_); (case zl1 => omega); (case zl2 => omega))
  | ((with_reducible refine' z_mulR ?zl1 ?zl2 ?_); (case zl1 => omega); (case zl2 => omega))
  | ((with_reducible refine' z_divS ?zl1 ?zl2 ?_); (case zl1 => omega); (case zl2 => omega))
  | ((with_reducible refine' z_mulW ?zl1 ?zl2 ?zl3 ?zl4 ?_); (case zl1 => omega); (case zl2 => omega); (case zl3 => omega); (case zl4 => omega))
  | ((with_reducible refine' z_divW ?zl1 ?zl2 ?_); (case zl1 => omega); (case zl2 => omega)))
local macro_rules | `(tactic| walk_at "zz") => `(tactic| repeat (walk_at "z"))
local macro_rules | `(tactic| walk_at "z") => `(tactic| with_reducible refine z_lstN ?_)
local macro_rules | `(tactic| walk_at "z") => `(tactic| with_reducible refine z_p6 ?_)
local macro_rules | `(tactic| walk_at "z") => `(tactic| with_reducible refine z_p12 ?_)
local macro_rules | `(tactic| walk_at "z") => `(tactic| with_reducible refine z_p13 ?_)
local macro_rules | `(tactic| walk_at "z") => `(tactic| with_reducible refine z_calln ?_)
local macro_rules | `(tactic| walk_at "z") => `(tactic| with_reducible refine z_xfS ?_)
local macro_rules | `(tactic| walk_at "z") => `(tactic| with_reducible refine z_lcS ?_)
local macro_rules | `(tactic| walk_at "z") => `(tactic| with_reducible refine z_lcRS ?_)
local macro_rules | `(tactic| walk_at "z") => `(tactic| with_reducible refine z_lcZS ?_)
local macro_rules | `(tactic| walk_at "z") => `(tactic| with_reducible refine z_foS ?_)
local macro_rules | `(tactic| walk_at "z") => `(tactic| with_reducible refine z_for1 ?_)
local macro_rules | `(tactic| walk_at "z") => `(tactic| with_reducible refine z_tsl ?_)
local macro_rules | `(tactic| walk_at "z") => `(tactic| with_reducible refine z_np ?_)
local macro_rules | `(tactic| walk_at "z") => `(tactic| with_reducible refine z_pt ?_)
local macro_rules | `(tactic| walk_at "z") => `(tactic| with_reducible refine z_pti ?_)
local macro_rules | `(tactic| walk_at "z") => `(tactic| with_reducible refine z_catI ?_)
local macro_rules | `(tactic| walk_at "z") => `(tactic| with_reducible refine z_isNI ?_)
local macro_rules | `(tactic| walk_at "z") => `(tactic| with_reducible refine z_isNN ?_)
local macro_rules | `(tactic| walk_at "z") => `(tactic| with_reducible refine z_notNI ?_)
local macro_rules | `(tactic| walk_at "z") => `(tactic| with_reducible refine z_notNN ?_)
local macro_rules | `(tactic| walk_at "z") => `(tactic| with_reducible refine z_gsub ?_)
local macro_rules | `(tactic| walk_at "z") => `(tactic| with_reducible refine z_isNb ?_)
local macro_rules | `(tactic| walk_at "z") => `(tactic| with_reducible refine z_notNb ?_)
local macro_rules | `(tactic| walk_at "z") => `(tactic| ((with_reducible refine' z_nlR ?zl1 ?_); (case zl1 => exact Nat.le_of_ble_eq_true rfl); intro p H' hp hs he))
local macro_rules | `(tactic| walk_at "z") => `(tactic| ((with_reducible refine' z_repR ?zl1 ?zl2 ?_); (case zl1 => omega); (case zl2 => omega)))
local macro_rules | `(tactic| walk_at "z") => `(tactic| ((with_reducible refine' z_repL ?zl1 ?zl2 ?_); (case zl1 => omega); (case zl2 => omega)))
local macro_rules | `(tactic| walk_at "z") => `(tactic| ((with_reducible refine' z_lenLst ?zl1 ?_); (case zl1 => walk_at "up")))
local macro_rules | `(tactic| walk_at "z") => `(tactic| ((with_reducible refine' z_cat ?zl1 ?zl2 ?zl3 ?_); (case zl1 => walk_at "up"); (case zl2 => walk_at "up"); (case zl3 => (simp only [List.length_map, List.length_cons, List.length_nil, List.length_append, List.length_replicate]; omega)); intro p H' hp hs he))
local macro_rules | `(tactic| walk_at "z") => `(tactic| with_reducible refine z_sfl ?_)
local macro_rules | `(tactic| walk_at "z") => `(tactic| with_reducible refine z_lcES ?_)
local macro_rules | `(tactic| walk_at "z") => `(tactic| with_reducible refine z_lcMS ?_)
local macro_rules | `(tactic| walk_at "z") => `(tactic| with_reducible refine z_foES ?_)
local macro_rules | `(tactic| walk_at "z") => `(tactic| with_reducible refine z_fo3S ?_)
local macro_rules | `(tactic| walk_at "z") => `(tactic| with_reducible refine z_sta ?_)
local macro_rules | `(tactic| walk_at "z") => `(tactic| with_reducible refine z_sta1 ?_)
local macro_rules | `(tactic| walk_at "z") => `(tactic| ((with_reducible refine' z_fldt ?zc1 ?zc2 ?zl1 ?zl2 ?_); (case zc1 => exact Lw.cl_Ratio (by assumption)); (case zc2 => exact Lw.na_Ratio_top (by assumption)); (case zl1 => exact rfl); (case zl2 => walk_at "up")))
local macro_rules | `(tactic| walk_at "z") => `(tactic| ((with_reducible refine' z_fldb ?zc1 ?zc2 ?zl1 ?zl2 ?_); (case zc1 => exact Lw.cl_Ratio (by assumption)); (case zc2 => exact Lw.na_Ratio_bottom (by assumption)); (case zl1 => exact rfl); (case zl2 => walk_at "up")))
theorem same66c {H H1 H2 : Hp} (h : Same H1 H2) (e : Same H H1) : Same H H2 := e.trans h
local macro_rules | `(tactic| walk_at "sm") => `(tactic| first
  | assumption
  | exact fun _ _ h => h
  | (refine' same66c (by assumption) ?zsm; case zsm => walk_at "sm"))
local macro_rules | `(tactic| walk_at "up") => `(tactic| first
  | assumption
  | (with_reducible refine' IsR.mono (by assumption) ?zup; case zup => walk_at "up")
  | (with_reducible refine' IsV.mono (by assumption) ?zup; case zup => walk_at "up")
  | (with_reducible refine' IsQ.mono (by assumption) ?zup; case zup => walk_at "up")
  | (with_reducible refine' Same.at (by assumption) ?zup; case zup => walk_at "up")
  | fail)
open S31 (cf)
open S30
/-- the sign of a difference -/
def cmpQ (v w : Rat) : Int := if v < w then -1 else if w < v then 1 else 0
def fs_rcmp (K : Frag) : F2 := fun a b H Q _ => ∃ (p r : Addr) (v w : Rat) (B : Nat), a = .ref p ∧ b = .ref r ∧ IsV K H p v B ∧ IsV K H r w B ∧ 0 < B ∧ B ≤ 100000 ∧ Q (.int (cmpQ v w)) H
theorem lt_cast {t u t' u' : Int} {v w : Rat} (hu : 0 < u) (hu' : 0 < u') (e : (t : Rat) = v * u) (e' : (t' : Rat) = w * u') : (t * u' < t' * u) ↔ v < w := by
  have c : (t * u' < t' * u) ↔ ((t : Rat) * u' < (t' : Rat) * u) := by
    rw [← Rat.intCast_mul, ← Rat.intCast_mul]
    exact Rat.intCast_lt_intCast.symm
  have p1 : (0 : Rat) < (u : Rat) := by exact_mod_cast hu
  have p2 : (0 : Rat) < (u' : Rat) := by exact_mod_cast hu'
  rw [c, e, e']
  constructor
  · intro h
    by_cases q : v < w
    · exact q
    · have := Rat.mul_nonneg (Rat.mul_nonneg (show 0 ≤ v - w by grind) (Rat.le_of_lt p1)) (Rat.le_of_lt p2)
      grind
  · intro h
    have := Rat.mul_pos (Rat.mul_pos (show 0 < w - v by grind) p1) p2
    grind
def fs_rsgn (K : Frag) : F1 := fun a H Q _ => ∃ (p : Addr) (v : Rat) (B : Nat), a = .ref p ∧ IsV K H p v B ∧ Q (.int (cmpQ v 0)) H
theorem sgn_cast {t u : Int} {v : Rat} (hu : 0 < u) (e : (t : Rat) = v * u) : (t < 0 ↔ v < 0) ∧ (0 < t ↔ 0 < v) := by
  have a := lt_cast (t := t) (u := u) (t' := 0) (u' := 1) (v := v) (w := 0) hu (by decide) e (by rw [Rat.zero_mul]; rfl)
  have b := lt_cast (t := 0) (u := 1) (t' := t) (u' := u) (v := 0) (w := v) (by decide) hu (by rw [Rat.zero_mul]; rfl) e
  rw [Int.zero_mul, Int.mul_one] at a
  rw [Int.zero_mul, Int.mul_one] at b
  exact ⟨a, b⟩
def fs_sgn2 (K : Frag) : F1 := fun a H Q E => fs_rsgn K a H Q E ∨ fs_fsgn K a H Q E
section
variable {P : Program} {w : World} {K : Frag} {mg : Str → Option Value} {base : Heap}
theorem ok_Ratio_compare (L : Lw K mg) {fd : FuncData} (F : FunD K "compare" "Ratio.compare" (defArgs s_Ratio_compare) (defBody s_Ratio_compare) (defScope s_Ratio_compare) (df_Ratio_compare.dvs K) (df_Ratio_compare.kws K) (He.fAd K ("Ratio", some "compare")) fd) : FnOk P w K mg base (L2N.CX P w) 1 (He.fAd K ("Ratio", some "compare")) fd (["self", "other"] : List Str) (sp2 (fs_rcmp K)) := by
  refine FunD.ok F sc_Ratio_compare len2 (fun cdv A outer s H vs Q E hr h => ?_)
  obtain ⟨a, b, rfl, h⟩ := h
  refine ⟨_, (pss_cons (ps_set (i := 2) sc_Ratio_compare.nd rfl (by first | exact Or.inl rfl | exact Or.inr rfl) (pe_op o_rep (pe_fld (pv 0) rfl) (pe_fld (pv 1) rfl)))
    (pss_cons (ps_set (i := 3) sc_Ratio_compare.nd rfl (by first | exact Or.inl rfl | exact Or.inr rfl) (pe_op o_rep (pe_fld (pv 1) rfl) (pe_fld (pv 0) rfl)))
    (pss_cons (ps_if (pt_cmpR o_lt (pv 2) (pv 3) (nomark _)) (pss_one (ps_ret (pe_un o_neg pe_int))) pss_nil)
    (pss_one (ps_ret (pe_ifExp (pt_cmpR o_gt (pv 2) (pv 3) (nomark _)) pe_int pe_int)))))), ?_⟩
  obtain ⟨p, r, v, w, B, rfl, rfl, ⟨t, u, h1, u0, b1, b2, e⟩, ⟨t', u', h2, u0', b1', b2', e'⟩, B0, B1, q⟩ := h
  have c1 := lt_cast u0 u0' e e'
  have c2 := lt_cast u0' u0 e' e
  walk_at "zz"
  refine z_repB b1 b2' B0 B0 (by omega) ?_
  walk_at "zz"
  refine z_repB b1' b2 B0 B0 (by omega) ?_
  walk_at "zz"
  unfold cmpQ at q
  refine z_d2 (fun c => ?_) (fun c => ?_)
  · rw [if_pos (c1.mp c)] at q
    walk_at "zz"
    exact q
  · rw [if_neg (fun z => c (c1.mpr z))] at q
    walk_at "zz"
    refine z_d2 (fun c => ?_) (fun c => ?_)
    · rw [if_pos (c2.mp c)] at q
      walk_at "zz"
      exact q
    · rw [if_neg (fun z => c (c2.mpr z))] at q
      walk_at "zz"
      exact q
theorem c_Ratio_compare (L : Lw K mg) : Met P w K mg base 1 (He.ga K "Ratio") "compare" (sp2 (fs_rcmp K)) [] := by
  obtain ⟨fd, F⟩ := L.d_Ratio_compare
  exact ⟨⟨_, fd, ["self", "other"], [], L.cl_Ratio, L.me_Ratio_compare, ok_Ratio_compare L F, F.bindsN (fun _ _ _ _ _ _ us hl => match us, hl with | [_, _], _ => rfl), .nil⟩⟩
theorem ok_Ratio_sign (L : Lw K mg) {fd : FuncData} (F : FunD K "sign" "Ratio.sign" (defArgs s_Ratio_sign) (defBody s_Ratio_sign) (defScope s_Ratio_sign) (df_Ratio_sign.dvs K) (df_Ratio_sign.kws K) (He.fAd K ("Ratio", some "sign")) fd) : FnOk P w K mg base (L2N.CX P w) 1 (He.fAd K ("Ratio", some "sign")) fd (["self"] : List Str) (sp1 (fs_sgn2 K)) := by
  refine FunD.ok F sc_Ratio_sign len1 (fun cdv A outer s H vs Q E hr h => ?_)
  obtain ⟨a, rfl, h⟩ := h
  refine ⟨_, (pss_cons (ps_if (pt_cmpR o_lt (pe_fld (pv 0) rfl) pe_int (nomark _)) (pss_one (ps_ret (pe_un o_neg pe_int))) pss_nil)
    (pss_one (ps_ret (pe_ifExp (pt_cmpR o_gt (pe_fld (pv 0) rfl) pe_int (nomark _)) pe_int pe_int)))), ?_⟩
  rcases h with h | h
  · obtain ⟨p, v, B, rfl, ⟨t, u, h1, u0, b1, b2, e⟩, q⟩ := h
    obtain ⟨c1, c2⟩ := sgn_cast u0 e
    unfold cmpQ at q
    walk_at "zz"
    refine z_d2 (fun c => ?_) (fun c => ?_)
    · rw [if_pos (c1.mp c)] at q
      walk_at "zz"
      exact q
    · rw [if_neg (fun z => c (c1.mpr z))] at q
      walk_at "zz"
      refine z_d2 (fun c => ?_) (fun c => ?_)
      · rw [if_pos (c2.mp c)] at q
        walk_at "zz"
        exact q
      · rw [if_neg (fun z => c (c2.mpr z))] at q
        walk_at "zz"
        exact q
  · obtain ⟨p, T, w, rfl, ⟨t, b, h1, b0, g, e⟩, w0, q⟩ := h
    obtain ⟨c1, c2⟩ := fr_neg b0 w0 e
    walk_at "zz"
    refine z_d2 (fun c => ?_) (fun c => ?_)
    · rw [if_pos (c1.mp c)] at q
      walk_at "zz"
      exact q
    · rw [if_neg (fun z => c (c1.mpr z))] at q
      walk_at "zz"
      refine z_d2 (fun c => ?_) (fun c => ?_)
      · rw [if_pos (c2.mp c)] at q
        walk_at "zz"
        exact q
      · rw [if_neg (fun z => c (c2.mpr z))] at q
        walk_at "zz"
        exact q
theorem c_Ratio_sign (L : Lw K mg) : Met P w K mg base 1 (He.ga K "Ratio") "sign" (sp1 (fs_sgn2 K)) [] := by
  obtain ⟨fd, F⟩ := L.d_Ratio_sign
  exact ⟨⟨_, fd, ["self"], [], L.cl_Ratio, L.me_Ratio_sign, ok_Ratio_sign L F, F.bindsN (fun _ _ _ _ _ _ us hl => match us, hl with | [_], _ => rfl), .nil⟩⟩
end
end T
set_option maxHeartbeats 4000000
namespace T
open PySem PySem.Spec PyProof.Rows L2 Z
local macro_rules | `(tactic| walk_at "up") => `(tactic| first
  | assumption
  | (refine' IsR.mono (by assumption) ?zup; case zup => walk_at "up")
  | (refine' IsE.mono (by assumption) ?zup; case zup => walk_at "up")
  | (refine' Same.at (by assumption) ?zup; case zup => walk_at "up")
  | (refine' SqL.of ?zup; case zup => walk_at "up")
  | (refine' L2.Same.seq (by assumption) ?zup; case zup => walk_at "up"))
local macro_rules | `(tactic| walk_at "z") => `(tactic| first
  | ((with_reducible refine' z_var ?zvh ?_); (case zvh => exact rfl))
  | with_reducible refine z_c ?_
  | with_reducible refine z_cons ?_
  | with_reducible refine z_nil ?_
  | with_reducible refine z_op ?_
  | with_reducible refine z_nx ?_
  | with_reducible refine z_seq ?_
  | with_reducible refine z_asg ?_
  | with_reducible refine z_asgG ?_
  | with_reducible refine z_call ?_
  | with_reducible refine z_sq0 ?_
  | with_reducible refine z_sq1 ?_
  | with_reducible refine z_ifS ?_
  | with_reducible refine z_test ?_
  | with_reducible refine z_tb ?_
  | with_reducible refine z_bl ?_
  | with_reducible refine z_blI ?_
  | with_reducible refine z_ret ?_
  | with_reducible refine z_rt ?_
  | with_reducible refine z_T ?_
  | with_reducible refine z_F ?_
  | with_reducible refine z_add ?_
  | with_reducible refine z_sub ?_
  | with_reducible refine z_neg ?_
  | with_reducible refine z_un ?_
  | with_reducible refine z_eqI ?_
  | with_reducible refine z_neI ?_
  | with_reducible refine z_lt ?_
  | with_reducible refine z_le ?_
  | with_reducible refine z_gt ?_
  | with_reducible refine z_ge ?_
  | with_reducible refine z_not ?_
  | with_reducible refine z_and ?_
  | with_reducible refine z_or ?_
  | with_reducible refine z_andV ?_
  | with_reducible refine z_orV ?_
  | with_reducible refine z_notV ?_
  | with_reducible refine z_if ?_
  | with_reducible refine z_cb ?_
  | with_reducible refine z_int1 ?_
  | with_reducible refine z_intb ?_
  | with_reducible refine z_abs ?_
  | with_reducible refine z_gcd ?_
  | with_reducible refine z_isi_ii ?_
  | with_reducible refine z_isi_ib ?_
  | with_reducible refine z_next ?_
  | with_reducible refine z_drop ?_
  | with_reducible refine z_par ?_
  | with_reducible refine z_par2 ?_
  | with_reducible refine z_tupN ?_
  | with_reducible refine z_lstN ?_
  | ((with_reducible refine' z_nt ?zl1 ?_); (case zl1 => exact Nat.le_of_ble_eq_true rfl); intro p H' hp hs he)
  | ((with_reducible refine' z_gtup ?zl1 ?zl2 ?_); (case zl1 => walk_at "up"); (case zl2 => exact rfl))
  | with_reducible refine z_bk ?_
  | with_reducible refine z_ct ?_
  | with_reducible refine z_break ?_
  | with_reducible refine z_cont ?_
  | with_reducible refine z_retN ?_
  | with_reducible refine z_nn ?_
  | with_reducible refine z_mk ?_
  | with_reducible refine z_gn ?_
  | with_reducible refine z_gcons ?_
  | with_reducible refine z_gnil ?_
  | with_reducible refine z_mt ?_
  | with_reducible refine z_mko ?_
  | with_reducible refine z_for2 ?_
  | with_reducible refine z_ownI ?_
  | ((with_reducible refine' z_lenL ?zl1 ?_); (case zl1 => walk_at "up"))
  | ((with_reducible refine' z_ixT ?zl1 ?zl2 ?_); (case zl1 => walk_at "up"); (case zl2 => exact rfl))
  | ((with_reducible refine' z_mulL ?zl1 ?zl2 ?_); (case zl1 => omega); (case zl2 => omega))
  | ((with_reducible refine' z_mulR ?zl1 ?zl2 ?_); (case zl1 => omega); (case zl2 => omega))
  | ((with_reducible refine' z_divS ?zl1 ?zl2 ?_); (case zl1 => omega); (case zl2 => omega))
  | ((with_reducible refine' z_mulW ?zl1 ?zl2 ?zl3 ?zl4 ?_); (case zl1 => omega); (case zl2 => omega); (case zl3 => omega); (case zl4 => omega))
  | ((with_reducible refine' z_divW ?zl1 ?zl2 ?_); (case zl1 => omega); (case zl2 => omega)))
local macro_rules | `(tactic| walk_at "zz") => `(tactic| repeat (walk_at "z"))
local macro_rules | `(tactic| walk_at "z") => `(tactic| with_reducible refine z_lstN ?_)
local macro_rules | `(tactic| walk_at "z") => `(tactic| with_reducible refine z_p6 ?_)
local macro_rules | `(tactic| walk_at "z") => `(tactic| with_reducible refine z_p12 ?_)
local macro_rules | `(tactic| walk_at "z") => `(tactic| with_reducible refine z_p13 ?_)
local macro_rules | `(tactic| walk_at "z") => `(tactic| with_reducible refine z_calln ?_)
local macro_rules | `(tactic| walk_at "z") => `(tactic| with_reducible refine z_xfS ?_)
local macro_rules | `(tactic| walk_at "z") => `(tactic| with_reducible refine z_lcS ?_)
local macro_rules | `(tactic| walk_at "z") => `(tactic| with_reducible refine z_lcRS ?_)
local macro_rules | `(tactic| walk_at "z") => `(tactic| with_reducible refine z_lcZS ?_)
local macro_rules | `(tactic| walk_at "z") => `(tactic| with_reducible refine z_foS ?_)
local macro_rules | `(tactic| walk_at "z") => `(tactic| with_reducible refine z_for1 ?_)
local macro_rules | `(tactic| walk_at "z") => `(tactic| with_reducible refine z_tsl ?_)
local macro_rules | `(tactic| walk_at "z") => `(tactic| with_reducible refine z_np ?_)
local macro_rules | `(tactic| walk_at "z") => `(tactic| with_reducible refine z_pt ?_)
local macro_rules | `(tactic| walk_at "z") => `(tactic| with_reducible refine z_pti ?_)
local macro_rules | `(tactic| walk_at "z") => `(tactic| with_reducible refine z_catI ?_)
local macro_rules | `(tactic| walk_at "z") => `(tactic| with_reducible refine z_isNI ?_)
local macro_rules | `(tactic| walk_at "z") => `(tactic| with_reducible refine z_isNN ?_)
local macro_rules | `(tactic| walk_at "z") => `(tactic| with_reducible refine z_notNI ?_)
local macro_rules | `(tactic| walk_at "z") => `(tactic| with_reducible refine z_notNN ?_)
local macro_rules | `(tactic| walk_at "z") => `(tactic| with_reducible refine z_gsub ?_)
local macro_rules | `(tactic| walk_at "z") => `(tactic| with_reducible refine z_isNb ?_)
local macro_rules | `(tactic| walk_at "z") => `(tactic| with_reducible refine z_notNb ?_)
local macro_rules | `(tactic| walk_at "z") => `(tactic| ((with_reducible refine' z_nlR ?zl1 ?_); (case zl1 => exact Nat.le_of_ble_eq_true rfl); intro p H' hp hs he))
local macro_rules | `(tactic| walk_at "z") => `(tactic| ((with_reducible refine' z_repR ?zl1 ?zl2 ?_); (case zl1 => omega); (case zl2 => omega)))
local macro_rules | `(tactic| walk_at "z") => `(tactic| ((with_reducible refine' z_repL ?zl1 ?zl2 ?_); (case zl1 => omega); (case zl2 => omega)))
local macro_rules | `(tactic| walk_at "z") => `(tactic| ((with_reducible refine' z_lenLst ?zl1 ?_); (case zl1 => walk_at "up")))
local macro_rules | `(tactic| walk_at "z") => `(tactic| ((with_reducible refine' z_cat ?zl1 ?zl2 ?zl3 ?_); (case zl1 => walk_at "up"); (case zl2 => walk_at "up"); (case zl3 => (simp only [List.length_map, List.length_cons, List.length_nil, List.length_append, List.length_replicate]; omega)); intro p H' hp hs he))
local macro_rules | `(tactic| walk_at "z") => `(tactic| with_reducible refine z_sfl ?_)
local macro_rules | `(tactic| walk_at "z") => `(tactic| with_reducible refine z_lcES ?_)
local macro_rules | `(tactic| walk_at "z") => `(tactic| with_reducible refine z_lcMS ?_)
local macro_rules | `(tactic| walk_at "z") => `(tactic| with_reducible refine z_foES ?_)
local macro_rules | `(tactic| walk_at "z") => `(tactic| with_reducible refine z_fo3S ?_)
local macro_rules | `(tactic| walk_at "z") => `(tactic| with_reducible refine z_sta ?_)
local macro_rules | `(tactic| walk_at "z") => `(tactic| with_reducible refine z_sta1 ?_)
local macro_rules | `(tactic| walk_at "z") => `(tactic| ((with_reducible refine' z_fldt ?zc1 ?zc2 ?zl1 ?zl2 ?_); (case zc1 => exact Lw.cl_Ratio (by assumption)); (case zc2 => exact Lw.na_Ratio_top (by assumption)); (case zl1 => exact rfl); (case zl2 => walk_at "up")))
local macro_rules | `(tactic| walk_at "z") => `(tactic| ((with_reducible refine' z_fldb ?zc1 ?zc2 ?zl1 ?zl2 ?_); (case zc1 => exact Lw.cl_Ratio (by assumption)); (case zc2 => exact Lw.na_Ratio_bottom (by assumption)); (case zl1 => exact rfl); (case zl2 => walk_at "up")))
theorem same66d {H H1 H2 : Hp} (h : Same H1 H2) (e : Same H H1) : Same H H2 := e.trans h
local macro_rules | `(tactic| walk_at "sm") => `(tactic| first
  | assumption
  | exact fun _ _ h => h
  | (refine' same66d (by assumption) ?zsm; case zsm => walk_at "sm"))
local macro_rules | `(tactic| walk_at "up") => `(tactic| first
  | assumption
  | (with_reducible refine' IsR.mono (by assumption) ?zup; case zup => walk_at "up")
  | (with_reducible refine' IsV.mono (by assumption) ?zup; case zup => walk_at "up")
  | (with_reducible refine' IsQ.mono (by assumption) ?zup; case zup => walk_at "up")
  | (with_reducible refine' Same.at (by assumption) ?zup; case zup => walk_at "up")
  | fail)
open S31 (cf)
open S30
theorem u_low {H : Hp} {Q : VK} {E : XK} {p : Addr} {ns : List Int} {o : Int} (h : H p = some (.lst (ns.map V.int))) (hl : ns.length ≤ 16777216) (o1 : 1 ≤ o) (o2 : Bits 8999 o)
    (k : ∀ t q H' ls o', Same H H' → H' t = some (.tup [.ref q, .int o']) → H' q = some (.tup (ls.map V.int)) → LowT ns o ls o' → Q (.ref t) H') : sp2 fs_low [.ref p, .int o] H Q E := ⟨_, _, rfl, p, ns, o, rfl, rfl, h, hl, o1, o2, k⟩
theorem u_mkP {K : Frag} {H : Hp} {Q : VK} {E : XK} {q : Addr} {ns : List Int} {o : Int} (h : H q = some (.lst (ns.map V.int))) (hl : ns.length ≤ 200) (o1 : 1 ≤ o) (o2 : Bits 8999 o) (k : ∀ x H' ls o', Same H H' → IsQ K H' x ls o' → LowT ns o ls o' → Q (.ref x) H') :
    zMk (He.ga K "Poly") (sp3 (fs_pinit K)) [] E [.ref q, .int o] H Q :=
  fun x dx hx hdx ne => ⟨_, _, _, rfl, x, dx, q, H, ns, o, rfl, rfl, rfl, rfl, hx, hdx, ne, h, hl, o1, o2, fun H' ls o' s p l => ⟨rfl, k x H' ls o' s p l⟩⟩
theorem u_mkP1 {K : Frag} {H : Hp} {Q : VK} {E : XK} {q : Addr} {ns : List Int} (h : H q = some (.lst (ns.map V.int))) (hl : ns.length ≤ 200) (k : ∀ x H' ls o', H x = none → Same H H' → IsQ K H' x ls o' → LowT ns 1 ls o' → Q (.ref x) H') :
    zMk (He.ga K "Poly") (sp3 (fs_pinit K)) [.int 1] E [.ref q] H Q :=
  fun x dx hx hdx ne => ⟨_, _, _, rfl, x, dx, q, H, ns, 1, rfl, rfl, rfl, rfl, hx, hdx, ne, h, hl, by decide, Bits.up (Bits.small (n := 2) (by decide) (by decide)) (by decide), fun H' ls o' s p l => ⟨rfl, k x H' ls o' hx s p l⟩⟩
def fs_made (K : Frag) : F2 := fun a b H Q _ => ∃ (p : Addr) (ns : List Int) (o : Int), a = .ref p ∧ b = .int o ∧ H p = some (.lst (ns.map V.int)) ∧ ns.length ≤ 16777216 ∧ 1 ≤ o ∧ Bits 8999 o ∧ ∀ x H' ls o', Same H H' → IsQ K H' x ls o' → LowT ns o ls o' → Q (.ref x) H'
theorem u_made {K : Frag} {H : Hp} {Q : VK} {E : XK} {p : Addr} {ns : List Int} {o : Int} (h : H p = some (.lst (ns.map V.int))) (hl : ns.length ≤ 16777216) (o1 : 1 ≤ o) (o2 : Bits 8999 o)
    (k : ∀ x H' ls o', Same H H' → IsQ K H' x ls o' → LowT ns o ls o' → Q (.ref x) H') : sp2 (fs_made K) [.ref p, .int o] H Q E := ⟨_, _, rfl, p, ns, o, rfl, rfl, h, hl, o1, o2, k⟩
section
variable {P : Program} {w : World} {K : Frag} {mg : Str → Option Value} {base : Heap}
theorem ok_Poly_made (L : Lw K mg) {fd : FuncData} (F : FunD K "made" "Poly.made" (defArgs s_Poly_made) (defBody s_Poly_made) (defScope s_Poly_made) (df_Poly_made.dvs K) (df_Poly_made.kws K) (He5.wf K (He.ga K "Poly") "staticmethod" "made") fd) : FnOk P w K mg base (L2N.CX P w) 6 (He5.wf K (He.ga K "Poly") "staticmethod" "made") fd (["numbers", "over"] : List Str) (sp2 (fs_made K)) := by
  refine FunD.ok F sc_Poly_made len2 (fun cdv A outer s H vs Q E hr h => ?_)
  obtain ⟨a, b, rfl, h⟩ := h
  refine ⟨_, (pss_cons (ps_set (i := 2) sc_Poly_made.nd rfl (by first | exact Or.inl rfl | exact Or.inr rfl) (pe_c (c_lowest_terms (K := K) L) hr (by decide) (L2N.takes_of rfl rfl rfl rfl) (pa_cons (pv 0) (pa_cons (pv 1) pa_nil))))
    (pss_cons (ps_set (i := 3) sc_Poly_made.nd rfl (by first | exact Or.inl rfl | exact Or.inr rfl) (pe_mk (c1_PolyD_initD (K := K) L) hr (by decide) (L2N.takes_of rfl rfl rfl rfl) (pa_cons (pe_lst pa_nil) pa_nil)))
    (pss_cons (ps_fld (pv 3) (pe_ix (ix_seqK (K := K) rfl) (pv 2) pe_int (fun _ _ => rfl)) rfl)
    (pss_cons (ps_fld (pv 3) (pe_ix (ix_seqK (K := K) rfl) (pv 2) pe_int (fun _ _ => rfl)) rfl)
    (pss_cons (ps_fld (pv 3) (pe_op o_sub (pe_callB (callK rLen1 (K := K) rfl o_len) (by rfl) L.f_len (by decide +kernel) (pa_cons (pe_ix (ix_seqK (K := K) rfl) (pv 2) pe_int (fun _ _ => rfl)) pa_nil)) pe_int) rfl)
    (pss_one (ps_ret (pv 3)))))))), ?_⟩
  obtain ⟨p, ns, o, rfl, rfl, hp, hl, o1, o2, k⟩ := h
  walk_at "zz"
  refine u_low hp hl o1 o2 (fun t q H1 ls o' s1 et eq lw => ?_)
  walk_at "zz"
  rename_i pe Hb0 hpe se ee
  refine u_mkP1 (ns := []) ee (by decide) (fun x H2 ls0 o0 hx s2 ⟨dx, t0, ex, _⟩ _ => ?_)
  have sH : Same H H2 := s1.trans (se.trans s2)
  have hHx : H x = none := Same.none (s1.trans se) hx
  have et2 := s2 _ _ (se _ _ et)
  have eq2 := s2 _ _ (se _ _ eq)
  have tx : t ≠ x := ne_of_none (se _ _ et) hx
  have qx : q ≠ x := ne_of_none (se _ _ eq) hx
  walk_at "zz"
  refine z_sflp L.cl_Poly L.na_Poly_numbers rfl ex (by show 3 < 1000; decide) ?_
  rw [pfA]
  have sH3 : Same H (upd H2 x (.ins (He.ga K "Poly") dx [("numbers", .ref q), ("over", .int o0), ("degree", .int ((ls0.length : Int) - 1))])) := Same.put sH hHx
  have et3 : (upd H2 x (.ins (He.ga K "Poly") dx [("numbers", .ref q), ("over", .int o0), ("degree", .int ((ls0.length : Int) - 1))])) t = some (.tup [.ref q, .int o']) := by rw [upd_ne tx]; exact et2
  have eq3 : (upd H2 x (.ins (He.ga K "Poly") dx [("numbers", .ref q), ("over", .int o0), ("degree", .int ((ls0.length : Int) - 1))])) q = some (.tup (ls.map V.int)) := by rw [upd_ne qx]; exact eq2
  have ex3 : (upd H2 x (.ins (He.ga K "Poly") dx [("numbers", .ref q), ("over", .int o0), ("degree", .int ((ls0.length : Int) - 1))])) x = some (.ins (He.ga K "Poly") dx [("numbers", .ref q), ("over", .int o0), ("degree", .int ((ls0.length : Int) - 1))]) := upd_same
  generalize (upd H2 x (.ins (He.ga K "Poly") dx [("numbers", .ref q), ("over", .int o0), ("degree", .int ((ls0.length : Int) - 1))])) = H3 at *
  walk_at "zz"
  refine z_sflp L.cl_Poly L.na_Poly_over rfl ex3 (by show 3 < 1000; decide) ?_
  rw [pfB (by decide +kernel), pfA]
  have sH4 : Same H (upd H3 x (.ins (He.ga K "Poly") dx [("numbers", .ref q), ("over", .int o'), ("degree", .int ((ls0.length : Int) - 1))])) := Same.put sH3 hHx
  have et4 : (upd H3 x (.ins (He.ga K "Poly") dx [("numbers", .ref q), ("over", .int o'), ("degree", .int ((ls0.length : Int) - 1))])) t = some (.tup [.ref q, .int o']) := by rw [upd_ne tx]; exact et3
  have eq4 : (upd H3 x (.ins (He.ga K "Poly") dx [("numbers", .ref q), ("over", .int o'), ("degree", .int ((ls0.length : Int) - 1))])) q = some (.tup (ls.map V.int)) := by rw [upd_ne qx]; exact eq3
  have ex4 : (upd H3 x (.ins (He.ga K "Poly") dx [("numbers", .ref q), ("over", .int o'), ("degree", .int ((ls0.length : Int) - 1))])) x = some (.ins (He.ga K "Poly") dx [("numbers", .ref q), ("over", .int o'), ("degree", .int ((ls0.length : Int) - 1))]) := upd_same
  generalize (upd H3 x (.ins (He.ga K "Poly") dx [("numbers", .ref q), ("over", .int o'), ("degree", .int ((ls0.length : Int) - 1))])) = H4 at *
  walk_at "zz"
  refine z_lenT eq4 ?_
  walk_at "zz"
  refine z_sflp L.cl_Poly L.na_Poly_degree rfl ex4 (by show 3 < 1000; decide) ?_
  rw [pfB (by decide +kernel), pfB (by decide +kernel), pfA, List.length_map]
  walk_at "zz"
  refine k x _ ls o' (Same.put sH4 hHx) ⟨dx, q, upd_same, ?_⟩ lw
  rw [upd_ne qx]
  exact eq4
theorem c_Poly_made (L : Lw K mg) : Sta P w K mg base 6 (He.ga K "Poly") "made" (sp2 (fs_made K)) [] := by
  obtain ⟨fd, F⟩ := L.d_Poly_made
  exact ⟨⟨_, _, fd, ["numbers", "over"], [], L.cr_Poly, L.sm_Poly_made, ok_Poly_made L F, F.kp, F.bindsN (fun _ _ _ _ _ _ us hl => match us, hl with | [_, _], _ => rfl), .nil⟩⟩
end
end T
set_option maxHeartbeats 4000000
namespace T
open PySem PySem.Spec PyProof.Rows L2 Z
local macro_rules | `(tactic| walk_at "up") => `(tactic| first
  | assumption
  | (refine' IsR.mono (by assumption) ?zup; case zup => walk_at "up")
  | (refine' IsE.mono (by assumption) ?zup; case zup => walk_at "up")
  | (refine' Same.at (by assumption) ?zup; case zup => walk_at "up")
  | (refine' SqL.of ?zup; case zup => walk_at "up")
  | (refine' L2.Same.seq (by assumption) ?zup; case zup => walk_at "up"))
local macro_rules | `(tactic| walk_at "z") => `(tactic| first
  | ((with_reducible refine' z_var ?zvh ?_); (case zvh => exact rfl))
  | with_reducible refine z_c ?_
  | with_reducible refine z_cons ?_
  | with_reducible refine z_nil ?_
  | with_reducible refine z_op ?_
  | with_reducible refine z_nx ?_
  | with_reducible refine z_seq ?_
  | with_reducible refine z_asg ?_
  | with_reducible refine z_asgG ?_
  | with_reducible refine z_call ?_
  | with_reducible refine z_sq0 ?_
  | with_reducible refine z_sq1 ?_
  | with_reducible refine z_ifS ?_
  | with_reducible refine z_test ?_
  | with_reducible refine z_tb ?_
  | with_reducible refine z_bl ?_
  | with_reducible refine z_blI ?_
  | with_reducible refine z_ret ?_
  | with_reducible refine z_rt ?_
  | with_reducible refine z_T ?_
  | with_reducible refine z_F ?_
  | with_reducible refine z_add ?_
  | with_reducible refine z_sub ?_
  | with_reducible refine z_neg ?_
  | with_reducible refine z_un ?_
  | with_reducible refine z_eqI ?_
  | with_reducible refine z_neI ?_
  | with_reducible refine z_lt ?_
  | with_reducible refine z_le ?_
  | with_reducible refine z_gt ?_
  | with_reducible refine z_ge ?_
  | with_reducible refine z_not ?_
  | with_reducible refine z_and ?_
  | with_reducible refine z_or ?_
  | with_reducible refine z_andV ?_
  | with_reducible refine z_orV ?_
  | with_reducible refine z_notV ?_
  | with_reducible refine z_if ?_
  | with_reducible refine z_cb ?_
  | with_reducible refine z_int1 ?_
  | with_reducible refine z_intb ?_
  | with_reducible refine z_abs ?_
  | with_reducible refine z_gcd ?_
  | with_reducible refine z_isi_ii ?_
  | with_reducible refine z_isi_ib ?_
  | with_reducible refine z_next ?_
  | with_reducible refine z_drop ?_
  | with_reducible refine z_par ?_
  | with_reducible refine z_par2 ?_
  | with_reducible refine z_tupN ?_
  | with_reducible refine z_lstN ?_
  | ((with_reducible refine' z_nt ?zl1 ?_); (case zl1 => exact Nat.le_of_ble_eq_true rfl); intro p H' hp hs he)
  | ((with_reducible refine' z_gtup ?zl1 ?zl2 ?_); (case zl1 => walk_at "up"); (case zl2 => exact rfl))
  | with_reducible refine z_bk ?_
  | with_reducible refine z_ct ?_
  | with_reducible refine z_break ?_
  | with_reducible refine z_cont ?_
  | with_reducible refine z_retN ?_
  | with_reducible refine z_nn ?_
  | with_reducible refine z_mk ?_
  | with_reducible refine z_gn ?_
  | with_reducible refine z_gcons ?_
  | with_reducible refine z_gnil ?_
  | with_reducible refine z_mt ?_
  | with_reducible refine z_mko ?_
  | with_reducible refine z_for2 ?_
  | with_reducible refine z_ownI ?_
  | ((with_reducible refine' z_lenL ?zl1 ?_); (case zl1 => walk_at "up"))
  | ((with_reducible refine' z_ixT ?zl1 ?zl2 ?_); (case zl1 => walk_at "up"); (case zl2 => exact rfl))
  | ((with_reducible refine' z_mulL ?zl1 ?zl2 ?_); (case zl1 => omega); (case zl2 => omega))
  | ((with_reducible refine' z_mulR ?zl1 ?zl2 ?_); (case zl1 => omega); (case zl2 => omega))
  | ((with_reducible refine' z_divS ?zl1 ?zl2 ?_); (case zl1 => omega); (case zl2 => omega))
  | ((with_reducible refine' z_mulW ?zl1 ?zl2 ?zl3 ?zl4 ?_); (case zl1 => omega); (case zl2 => omega); (case zl3 => omega); (case zl4 => omega))
  | ((with_reducible refine' z_divW ?zl1 ?zl2 ?_); (case zl1 => omega); (case zl2 => omega)))
local macro_rules | `(tactic| walk_at "zz") => `(tactic| repeat (walk_at "z"))
local macro_rules | `(tactic| walk_at "z") => `(tactic| with_reducible refine z_lstN ?_)
local macro_rules | `(tactic| walk_at "z") => `(tactic| with_reducible refine z_p6 ?_)
local macro_rules | `(tactic| walk_at "z") => `(tactic| with_reducible refine z_p12 ?_)
local macro_rules | `(tactic| walk_at "z") => `(tactic| with_reducible refine z_p13 ?_)
local macro_rules | `(tactic| walk_at "z") => `(tactic| with_reducible refine z_calln ?_)
local macro_rules | `(tactic| walk_at "z") => `(tactic| with_reducible refine z_xfS ?_)
local macro_rules | `(tactic| walk_at "z") => `(tactic| with_reducible refine z_lcS ?_)
local macro_rules | `(tactic| walk_at "z") => `(tactic| with_reducible refine z_lcRS ?_)
local macro_rules | `(tactic| walk_at "z") => `(tactic| with_reducible refine z_lcZS ?_)
local macro_rules | `(tactic| walk_at "z") => `(tactic| with_reducible refine z_foS ?_)
local macro_rules | `(tactic| walk_at "z") => `(tactic| with_reducible refine z_for1 ?_)
local macro_rules | `(tactic| walk_at "z") => `(tactic| with_reducible refine z_tsl ?_)
local macro_rules | `(tactic| walk_at "z") => `(tactic| with_reducible refine z_np ?_)
local macro_rules | `(tactic| walk_at "z") => `(tactic| with_reducible refine z_pt ?_)
local macro_rules | `(tactic| walk_at "z") => `(tactic| with_reducible refine z_pti ?_)
local macro_rules | `(tactic| walk_at "z") => `(tactic| with_reducible refine z_catI ?_)
local macro_rules | `(tactic| walk_at "z") => `(tactic| with_reducible refine z_isNI ?_)
local macro_rules | `(tactic| walk_at "z") => `(tactic| with_reducible refine z_isNN ?_)
local macro_rules | `(tactic| walk_at "z") => `(tactic| with_reducible refine z_notNI ?_)
local macro_rules | `(tactic| walk_at "z") => `(tactic| with_reducible refine z_notNN ?_)
local macro_rules | `(tactic| walk_at "z") => `(tactic| with_reducible refine z_gsub ?_)
local macro_rules | `(tactic| walk_at "z") => `(tactic| with_reducible refine z_isNb ?_)
local macro_rules | `(tactic| walk_at "z") => `(tactic| with_reducible refine z_notNb ?_)
local macro_rules | `(tactic| walk_at "z") => `(tactic| ((with_reducible refine' z_nlR ?zl1 ?_); (case zl1 => exact Nat.le_of_ble_eq_true rfl); intro p H' hp hs he))
local macro_rules | `(tactic| walk_at "z") => `(tactic| ((with_reducible refine' z_repR ?zl1 ?zl2 ?_); (case zl1 => omega); (case zl2 => omega)))
local macro_rules | `(tactic| walk_at "z") => `(tactic| ((with_reducible refine' z_repL ?zl1 ?zl2 ?_); (case zl1 => omega); (case zl2 => omega)))
local macro_rules | `(tactic| walk_at "z") => `(tactic| ((with_reducible refine' z_lenLst ?zl1 ?_); (case zl1 => walk_at "up")))
local macro_rules | `(tactic| walk_at "z") => `(tactic| ((with_reducible refine' z_cat ?zl1 ?zl2 ?zl3 ?_); (case zl1 => walk_at "up"); (case zl2 => walk_at "up"); (case zl3 => (simp only [List.length_map, List.length_cons, List.length_nil, List.length_append, List.length_replicate]; omega)); intro p H' hp hs he))
local macro_rules | `(tactic| walk_at "z") => `(tactic| with_reducible refine z_sfl ?_)
local macro_rules | `(tactic| walk_at "z") => `(tactic| with_reducible refine z_lcES ?_)
local macro_rules | `(tactic| walk_at "z") => `(tactic| with_reducible refine z_lcMS ?_)
local macro_rules | `(tactic| walk_at "z") => `(tactic| with_reducible refine z_foES ?_)
local macro_rules | `(tactic| walk_at "z") => `(tactic| with_reducible refine z_fo3S ?_)
local macro_rules | `(tactic| walk_at "z") => `(tactic| with_reducible refine z_sta ?_)
local macro_rules | `(tactic| walk_at "z") => `(tactic| with_reducible refine z_sta1 ?_)
local macro_rules | `(tactic| walk_at "z") => `(tactic| with_reducible refine z_lcTS ?_)
local macro_rules | `(tactic| walk_at "z") => `(tactic| with_reducible refine z_foTS ?_)
local macro_rules | `(tactic| walk_at "z") => `(tactic| with_reducible refine z_revTS ?_)
local macro_rules | `(tactic| walk_at "z") => `(tactic| with_reducible refine z_max2 ?_)
local macro_rules | `(tactic| walk_at "z") => `(tactic| ((with_reducible refine' z_fldt ?zc1 ?zc2 ?zl1 ?zl2 ?_); (case zc1 => exact Lw.cl_Ratio (by assumption)); (case zc2 => exact Lw.na_Ratio_top (by assumption)); (case zl1 => exact rfl); (case zl2 => walk_at "up")))
local macro_rules | `(tactic| walk_at "z") => `(tactic| ((with_reducible refine' z_fldb ?zc1 ?zc2 ?zl1 ?zl2 ?_); (case zc1 => exact Lw.cl_Ratio (by assumption)); (case zc2 => exact Lw.na_Ratio_bottom (by assumption)); (case zl1 => exact rfl); (case zl2 => walk_at "up")))
theorem same66e {H H1 H2 : Hp} (h : Same H1 H2) (e : Same H H1) : Same H H2 := e.trans h
local macro_rules | `(tactic| walk_at "sm") => `(tactic| first
  | assumption
  | exact fun _ _ h => h
  | (refine' same66e (by assumption) ?zsm; case zsm => walk_at "sm"))
open S31 (cf)
open S30
theorem lkO {u v w : V} : [(("numbers" : Str), u), ("over", v), ("degree", w)].lookup ("over" : Str) = some v := lkB (by decide +kernel) lkA
theorem lkD {u v w : V} : [(("numbers" : Str), u), ("over", v), ("degree", w)].lookup ("degree" : Str) = some w := lkB (by decide +kernel) (lkB (by decide +kernel) lkA)
theorem map_at {ls : List Int} {j : Nat} {x : V} (h : (ls.map V.int)[j]? = some x) : j < ls.length ∧ V.int (cf ls j) = x := by
  rw [List.getElem?_map] at h
  obtain ⟨y, hy, e⟩ := Option.map_eq_some_iff.mp h
  refine ⟨(List.getElem?_eq_some_iff.mp hy).1, ?_⟩
  have ey : cf ls j = y := by
    unfold cf
    rw [List.getD_eq_getElem?_getD, hy]
    rfl
  rw [ey]
  exact e
theorem range_ints {n : Nat} (f : Nat → Int) : ∃ ns : List Int, (List.range n).map (fun j => V.int (f j)) = ns.map V.int ∧ ns.length = n ∧ ∀ k, k < n → cf ns k = f k :=
  ⟨(List.range n).map f, by rw [List.map_map]; rfl, by simp, fun k hk => by rw [S31.cf_in (by simpa using hk)]; simp⟩
theorem z_repU {i j : Int} {a b : Nat} {H : Hp} {Q : VK} (ha : Bits a i) (hb : Bits b j) (h : a + b ≤ 900000) (q : Q (.int (i * j)) H) : zRep (.int i) (.int j) H Q := z_repB (ha.up (Nat.le_succ a)) (hb.up (Nat.le_succ b)) (Nat.succ_pos a) (Nat.succ_pos b) (by omega) q
theorem cf_set {xs : List Int} {i : Nat} {v : Int} (h : i < xs.length) (k : Nat) : S31.cf (xs.set i v) k = if k = i then v else S31.cf xs k := by
  unfold S31.cf
  rw [List.getD_eq_getElem?_getD, List.getElem?_set]
  by_cases e : k = i
  · subst e
    simp [h]
  · rw [if_neg (Ne.symm e), if_neg e, List.getD_eq_getElem?_getD]
/-- a Poly of degree at most 2: a + b x + c x^2 -/
def QP (K : Frag) (H : Hp) (p : Addr) (a b c : Rat) (N : Nat) : Prop := ∃ (ls : List Int) (o : Int), IsQ K H p ls o ∧ ls.length ≤ 3 ∧ 0 < o ∧ Bits N o ∧ (∀ k, Bits N (cf ls k)) ∧ (∀ m, ls.length = m + 1 → cf ls m ≠ 0) ∧ (cf ls 0 : Rat) = a * o ∧ (cf ls 1 : Rat) = b * o ∧ (cf ls 2 : Rat) = c * o ∧ (∀ d : Int, d ∣ o → (∀ k, d ∣ cf ls k) → d ∣ 1)
theorem QP.mono {K : Frag} {H H' : Hp} {p : Addr} {a b c : Rat} {N : Nat} (s : Same H H') (h : QP K H p a b c N) : QP K H' p a b c N := by
  obtain ⟨ls, o, h1, h⟩ := h
  exact ⟨ls, o, h1.mono s, h⟩
theorem QP.of {K : Frag} {H : Hp} {p : Addr} {ns ls : List Int} {o o' : Int} {N : Nat} {a b c : Rat} (h : IsQ K H p ls o') (lw : LowT ns o ls o') (ho : 0 < o) (hn : ns.length ≤ 3) (b1 : Bits N o) (b2 : ∀ k, Bits N (cf ns k))
    (e0 : (cf ns 0 : Rat) = a * o) (e1 : (cf ns 1 : Rat) = b * o) (e2 : (cf ns 2 : Rat) = c * o) : QP K H p a b c N := by
  have o1 := lw.pos ho
  obtain ⟨g, g0, q1, q2⟩ := lw.ex
  have g0' := ne_cast (show g ≠ 0 by omega)
  have key : ∀ k (v : Rat), (cf ns k : Rat) = v * o → (cf ls k : Rat) = v * o' := fun k v e => by
    rw [q1, q2, Rat.intCast_mul, Rat.intCast_mul] at e
    grind
  exact ⟨ls, o', h, by have := lw.len; omega, o1, b1.le lw.over, fun k => (b2 k).le (lw.abs k), fun m hm => lw.top m hm, key 0 a e0, key 1 b e1, key 2 c e2, lw.cop⟩
theorem QP.up {K : Frag} {H : Hp} {p : Addr} {a b c : Rat} {N M : Nat} (h : QP K H p a b c N) (hb : N ≤ M) : QP K H p a b c M := by
  obtain ⟨ls, o, h1, h2, h3, h4, h5, h6⟩ := h
  exact ⟨ls, o, h1, h2, h3, h4.up hb, fun k => (h5 k).up hb, h6⟩
theorem QP.cast {K : Frag} {H : Hp} {p : Addr} {a b c a' b' c' : Rat} {N : Nat} (h : QP K H p a b c N) (e1 : a = a') (e2 : b = b') (e3 : c = c') : QP K H p a' b' c' N := by
  subst e1 e2 e3
  exact h
theorem zero_of {n o : Int} {v : Rat} (o0 : 0 < o) (e : (n : Rat) = v * o) : n = 0 ↔ v = 0 := by
  have := ne_cast (show o ≠ 0 by omega)
  constructor
  · intro h
    rw [h] at e
    have e' : v * (o : Rat) = 0 := e.symm
    rcases Rat.mul_eq_zero.mp e' with z | z
    · exact z
    · exact absurd z this
  · intro h
    rw [h, Rat.zero_mul] at e
    exact_mod_cast e
theorem u_mtQ {K : Frag} {H : Hp} {p : Addr} {ls : List Int} {o : Int} {m : Str} {R : Prop} (h : IsQ K H p ls o) (q : R) (h1 : ¬ m = "numbers" := by decide +kernel) (h2 : ¬ m = "over" := by decide +kernel) (h3 : ¬ m = "degree" := by decide +kernel) : zMt (He.ga K "Poly") m (.ref p) H R := by
  obtain ⟨dx, t, hp, _⟩ := h
  exact ⟨p, dx, _, rfl, hp, by rw [lookup_put, if_neg h1, lookup_put, if_neg h2, lookup_put, if_neg h3]; rfl, q⟩
theorem u_mtQP {K : Frag} {H : Hp} {p : Addr} {a b c : Rat} {N : Nat} {m : Str} {R : Prop} (h : QP K H p a b c N) (q : R) (h1 : ¬ m = "numbers" := by decide +kernel) (h2 : ¬ m = "over" := by decide +kernel) (h3 : ¬ m = "degree" := by decide +kernel) : zMt (He.ga K "Poly") m (.ref p) H R :=
  h.elim fun ls z => z.elim fun o y => u_mtQ y.1 q h1 h2 h3
theorem IsV.up {K : Frag} {H : Hp} {p : Addr} {v : Rat} {B C : Nat} (h : IsV K H p v B) (hb : B ≤ C) : IsV K H p v C := by
  obtain ⟨t, b, h1, h2, h3, h4, h5⟩ := h
  exact ⟨t, b, h1, h2, h3.up hb, h4.up hb, h5⟩
theorem IsV.cast {K : Frag} {H : Hp} {p : Addr} {v w : Rat} {B : Nat} (h : IsV K H p v B) (e : v = w) : IsV K H p w B := by
  subst e
  exact h
/-- a whole number as a Ratio -/
theorem u_mkV1 {K : Frag} {H : Hp} {Q : VK} {E : XK} {n : Int} {B : Nat} (h1 : Bits B n) (hB : 1 ≤ B) (k : ∀ p H', Same H H' → IsV K H' p (n : Rat) B → Q (.ref p) H') : zMk (He.ga K "Ratio") (sp3 (fs_rinit K)) [.int 1] E [.int n] H Q :=
  z_mkR1 fun p H' s h => k p H' s ⟨n, 1, h, by decide, h1, Bits.up (Bits.small (n := 1) (by decide) (by decide)) hB, by rw [show ((1 : Int) : Rat) = 1 from rfl, Rat.mul_one]⟩
def fs_scl (K : Frag) : F2 := fun x y H Q _ => ∃ (p r : Addr) (a b c : Rat) (N : Nat) (v : Rat) (B : Nat), x = .ref p ∧ y = .ref r ∧ QP K H p a b c N ∧ IsV K H r v B ∧ N ≤ 3000 ∧ B ≤ 5000 ∧ ∀ z H', Same H H' → QP K H' z (a * v) (b * v) (c * v) (N + B) → Q (.ref z) H'
/-- Horner -/
def hv (rs : List Int) (v : Rat) : Nat → Rat
  | 0 => 0
  | i + 1 => hv rs v i * v + (cf rs i : Rat)
local macro_rules | `(tactic| walk_at "z") => `(tactic| ((with_reducible refine' z_fldG ?zc1 ?zc2 ?zl0 ?zl1 ?zl2 ?_); (case zc1 => exact Lw.cl_Poly (by assumption)); (case zc2 => exact Lw.na_Poly_numbers (by assumption)); (case zl0 => exact rfl); (case zl1 => walk_at "up"); (case zl2 => exact lkA)))
local macro_rules | `(tactic| walk_at "z") => `(tactic| ((with_reducible refine' z_fldG ?zc1 ?zc2 ?zl0 ?zl1 ?zl2 ?_); (case zc1 => exact Lw.cl_Poly (by assumption)); (case zc2 => exact Lw.na_Poly_over (by assumption)); (case zl0 => exact rfl); (case zl1 => walk_at "up"); (case zl2 => exact lkO)))
local macro_rules | `(tactic| walk_at "z") => `(tactic| ((with_reducible refine' z_fldG ?zc1 ?zc2 ?zl0 ?zl1 ?zl2 ?_); (case zc1 => exact Lw.cl_Poly (by assumption)); (case zc2 => exact Lw.na_Poly_degree (by assumption)); (case zl0 => exact rfl); (case zl1 => walk_at "up"); (case zl2 => exact lkD)))
local macro_rules | `(tactic| walk_at "up") => `(tactic| first
  | assumption
  | (with_reducible refine' IsR.mono (by assumption) ?zup; case zup => walk_at "up")
  | (with_reducible refine' IsV.mono (by assumption) ?zup; case zup => walk_at "up")
  | (with_reducible refine' IsQ.mono (by assumption) ?zup; case zup => walk_at "up")
  | (with_reducible refine' QP.mono (by assumption) ?zup; case zup => walk_at "up")
  | (with_reducible refine' Same.at (by assumption) ?zup; case zup => walk_at "up")
  | fail)
section
variable {P : Program} {w : World} {K : Frag} {mg : Str → Option Value} {base : Heap}
theorem ok_Poly_scaled (L : Lw K mg) {fd : FuncData} (F : FunD K "scaled" "Poly.scaled" (defArgs s_Poly_scaled) (defBody s_Poly_scaled) (defScope s_Poly_scaled) (df_Poly_scaled.dvs K) (df_Poly_scaled.kws K) (He.fAd K ("Poly", some "scaled")) fd) : FnOk P w K mg base (L2N.CX P w) 7 (He.fAd K ("Poly", some "scaled")) fd (["self", "ratio"] : List Str) (sp2 (fs_scl K)) := by
  refine FunD.ok F sc_Poly_scaled len2 (fun cdv A outer s H vs Q E hr h => ?_)
  obtain ⟨a, b, rfl, h⟩ := h
  refine ⟨_, (pss_one (ps_ret (pe_sm (c_Poly_made (K := K) L) hr (by decide) (L2N.takes_of rfl rfl rfl rfl) (pe_cls L.g_Poly) (pa_cons (pe_lc (own := [("number", 2)]) (g := (gName 2)) (tt := tYes) rfl sc_Poly_scaled.nd (pi_tupK (K := K) rfl (pe_fld (pv 0) rfl)) (blkOk_by (N := ["self", "ratio", "number"]) (sc := defScope s_Poly_scaled) (by decide +kernel)) (fun _ _ _ _ _ => pg_name (i := 2) sc_Poly_scaled.nd rfl (Or.inl rfl)) (fun _ _ _ _ _ => pts_nil) (fun _ _ _ _ _ => (pe_op o_rep (pv 2) (pe_fldK (K := K) rfl (pv 1) rfl)))) (pa_cons (pe_op o_rep (pe_fld (pv 0) rfl) (pe_fld (pv 1) rfl)) pa_nil))))), ?_⟩
  obtain ⟨p, r, a, b, c, N, v, B, rfl, rfl, ⟨ls, o, ⟨dx, tu, hp, htu⟩, hl, o0, bo, bl, ht, ea, eb, ec, hcop⟩, ⟨t, u, hr, u0, bt, bu, ev⟩, hN, hB, k⟩ := h
  walk_at "zz"
  refine z_lcTF (fun j => V.int (cf ls j * t)) htu (by rw [List.length_map]; omega) (fun j x H2 N2 hx s2 cc => ⟨rfl, ?_⟩) (fun D HD hD sD hlD => ?_)
  · obtain ⟨hj, rfl⟩ := map_at hx
    walk_at "zz"
    refine z_repU (bl j) bt (by omega) ?_
    exact cc _ (fun _ _ h => h)
  rw [List.length_map] at hlD
  obtain ⟨ns, ens, lns, cns⟩ := range_ints (n := ls.length) fun j => cf ls j * t
  rw [ens] at hlD
  have cns' : ∀ k, cf ns k = cf ls k * t := fun k => by
    by_cases c : k < ls.length
    · exact cns k c
    · rw [S31.cf_out (by omega), S31.cf_out (by omega), Int.zero_mul]
  walk_at "zz"
  refine z_repU bo bu (by omega) ?_
  have op : 0 < o * u := Int.mul_pos o0 u0
  walk_at "zz"
  refine u_made hlD (by omega) (by omega) (Bits.up (bo.mul bu) (by omega)) (fun x H3 ls' o' s3 hx lw => ?_)
  have ek : ∀ k (w : Rat), (cf ls k : Rat) = w * o → (cf ns k : Rat) = w * v * ((o * u : Int) : Rat) := fun k w e => by
    rw [cns', Rat.intCast_mul, Rat.intCast_mul, e, ev]
    grind
  exact k x H3 (sD.trans s3) (QP.of hx lw op (by omega) (bo.mul bu) (fun k => by rw [cns']; exact (bl k).mul bt) (ek 0 a ea) (ek 1 b eb) (ek 2 c ec))
theorem c_Poly_scaled (L : Lw K mg) : Met P w K mg base 7 (He.ga K "Poly") "scaled" (sp2 (fs_scl K)) [] := by
  obtain ⟨fd, F⟩ := L.d_Poly_scaled
  exact ⟨⟨_, fd, ["self", "ratio"], [], L.cl_Poly, L.me_Poly_scaled, ok_Poly_scaled L F, F.bindsN (fun _ _ _ _ _ _ us hl => match us, hl with | [_, _], _ => rfl), .nil⟩⟩
end
end T
set_option maxHeartbeats 4000000
namespace T
open PySem PySem.Spec PyProof.Rows L2 Z
/-- a field of what any expression gives -/
def zFd (K : Frag) (f : Str) (x : V) (H : Hp) (Q : VK) : Prop := ∃ a C dx fs v, x = .ref a ∧ H a = some (.ins C dx fs) ∧ Cls K C ∧ NoAttr K C f ∧ fs.lookup f = some v ∧ Q v H
theorem z_fldS {K : Frag} {ta : TE} {f : Str} {σ : L2.St} {H : Hp} {Q : VK} (q : ta σ H fun x H1 => zFd K f x H1 Q) : tFld K ta f σ H Q := q
theorem z_fdt {K : Frag} {H : Hp} {Q : VK} {p : Addr} {t b : Int} (c : Cls K (He.ga K "Ratio")) (n : NoAttr K (He.ga K "Ratio") "top") (h : IsR K H p t b) (q : Q (.int t) H) : zFd K "top" (.ref p) H Q :=
  h.elim fun dx e => ⟨p, _, dx, _, _, rfl, e, c, n, rf_top, q⟩
theorem z_fdb {K : Frag} {H : Hp} {Q : VK} {p : Addr} {t b : Int} (c : Cls K (He.ga K "Ratio")) (n : NoAttr K (He.ga K "Ratio") "bottom") (h : IsR K H p t b) (q : Q (.int b) H) : zFd K "bottom" (.ref p) H Q :=
  h.elim fun dx e => ⟨p, _, dx, _, _, rfl, e, c, n, rf_bottom, q⟩
local macro_rules | `(tactic| walk_at "up") => `(tactic| first
  | assumption
  | (refine' IsR.mono (by assumption) ?zup; case zup => walk_at "up")
  | (refine' IsE.mono (by assumption) ?zup; case zup => walk_at "up")
  | (refine' Same.at (by assumption) ?zup; case zup => walk_at "up")
  | (refine' SqL.of ?zup; case zup => walk_at "up")
  | (refine' L2.Same.seq (by assumption) ?zup; case zup => walk_at "up"))
local macro_rules | `(tactic| walk_at "z") => `(tactic| first
  | ((with_reducible refine' z_var ?zvh ?_); (case zvh => exact rfl))
  | with_reducible refine z_c ?_
  | with_reducible refine z_cons ?_
  | with_reducible refine z_nil ?_
  | with_reducible refine z_op ?_
  | with_reducible refine z_nx ?_
  | with_reducible refine z_seq ?_
  | with_reducible refine z_asg ?_
  | with_reducible refine z_asgG ?_
  | with_reducible refine z_call ?_
  | with_reducible refine z_sq0 ?_
  | with_reducible refine z_sq1 ?_
  | with_reducible refine z_ifS ?_
  | with_reducible refine z_test ?_
  | with_reducible refine z_tb ?_
  | with_reducible refine z_bl ?_
  | with_reducible refine z_blI ?_
  | with_reducible refine z_ret ?_
  | with_reducible refine z_rt ?_
  | with_reducible refine z_T ?_
  | with_reducible refine z_F ?_
  | with_reducible refine z_add ?_
  | with_reducible refine z_sub ?_
  | with_reducible refine z_neg ?_
  | with_reducible refine z_un ?_
  | with_reducible refine z_eqI ?_
  | with_reducible refine z_neI ?_
  | with_reducible refine z_lt ?_
  | with_reducible refine z_le ?_
  | with_reducible refine z_gt ?_
  | with_reducible refine z_ge ?_
  | with_reducible refine z_not ?_
  | with_reducible refine z_and ?_
  | with_reducible refine z_or ?_
  | with_reducible refine z_andV ?_
  | with_reducible refine z_orV ?_
  | with_reducible refine z_notV ?_
  | with_reducible refine z_if ?_
  | with_reducible refine z_cb ?_
  | with_reducible refine z_int1 ?_
  | with_reducible refine z_intb ?_
  | with_reducible refine z_abs ?_
  | with_reducible refine z_gcd ?_
  | with_reducible refine z_isi_ii ?_
  | with_reducible refine z_isi_ib ?_
  | with_reducible refine z_next ?_
  | with_reducible refine z_drop ?_
  | with_reducible refine z_par ?_
  | with_reducible refine z_par2 ?_
  | with_reducible refine z_tupN ?_
  | with_reducible refine z_lstN ?_
  | ((with_reducible refine' z_nt ?zl1 ?_); (case zl1 => exact Nat.le_of_ble_eq_true rfl); intro p H' hp hs he)
  | ((with_reducible refine' z_gtup ?zl1 ?zl2 ?_); (case zl1 => walk_at "up"); (case zl2 => exact rfl))
  | with_reducible refine z_bk ?_
  | with_reducible refine z_ct ?_
  | with_reducible refine z_break ?_
  | with_reducible refine z_cont ?_
  | with_reducible refine z_retN ?_
  | with_reducible refine z_nn ?_
  | with_reducible refine z_mk ?_
  | with_reducible refine z_gn ?_
  | with_reducible refine z_gcons ?_
  | with_reducible refine z_gnil ?_
  | with_reducible refine z_mt ?_
  | with_reducible refine z_mko ?_
  | with_reducible refine z_for2 ?_
  | with_reducible refine z_ownI ?_
  | ((with_reducible refine' z_lenL ?zl1 ?_); (case zl1 => walk_at "up"))
  | ((with_reducible refine' z_ixT ?zl1 ?zl2 ?_); (case zl1 => walk_at "up"); (case zl2 => exact rfl))
  | ((with_reducible refine' z_mulL ?zl1 ?zl2 ?_); (case zl1 => omega); (case zl2 => omega))
  | ((with_reducible refine' z_mulR ?zl1 ?zl2 ?_); (case zl1 => omega); (case zl2 => omega))
  | ((with_reducible refine' z_divS ?zl1 ?zl2 ?_); (case zl1 => omega); (case zl2 => omega))
  | ((with_reducible refine' z_mulW ?zl1 ?zl2 ?zl3 ?zl4 ?_); (case zl1 => omega); (case zl2 => omega); (case zl3 => omega); (case zl4 => omega))
  | ((with_reducible refine' z_divW ?zl1 ?zl2 ?_); (case zl1 => omega); (case zl2 => omega)))
local macro_rules | `(tactic| walk_at "zz") => `(tactic| repeat (walk_at "z"))
local macro_rules | `(tactic| walk_at "z") => `(tactic| with_reducible refine z_lstN ?_)
local macro_rules | `(tactic| walk_at "z") => `(tactic| with_reducible refine z_p6 ?_)
local macro_rules | `(tactic| walk_at "z") => `(tactic| with_reducible refine z_p12 ?_)
local macro_rules | `(tactic| walk_at "z") => `(tactic| with_reducible refine z_p13 ?_)
local macro_rules | `(tactic| walk_at "z") => `(tactic| with_reducible refine z_calln ?_)
local macro_rules | `(tactic| walk_at "z") => `(tactic| with_reducible refine z_xfS ?_)
local macro_rules | `(tactic| walk_at "z") => `(tactic| with_reducible refine z_lcS ?_)
local macro_rules | `(tactic| walk_at "z") => `(tactic| with_reducible refine z_lcRS ?_)
local macro_rules | `(tactic| walk_at "z") => `(tactic| with_reducible refine z_lcZS ?_)
local macro_rules | `(tactic| walk_at "z") => `(tactic| with_reducible refine z_foS ?_)
local macro_rules | `(tactic| walk_at "z") => `(tactic| with_reducible refine z_for1 ?_)
local macro_rules | `(tactic| walk_at "z") => `(tactic| with_reducible refine z_tsl ?_)
local macro_rules | `(tactic| walk_at "z") => `(tactic| with_reducible refine z_np ?_)
local macro_rules | `(tactic| walk_at "z") => `(tactic| with_reducible refine z_pt ?_)
local macro_rules | `(tactic| walk_at "z") => `(tactic| with_reducible refine z_pti ?_)
local macro_rules | `(tactic| walk_at "z") => `(tactic| with_reducible refine z_catI ?_)
local macro_rules | `(tactic| walk_at "z") => `(tactic| with_reducible refine z_isNI ?_)
local macro_rules | `(tactic| walk_at "z") => `(tactic| with_reducible refine z_isNN ?_)
local macro_rules | `(tactic| walk_at "z") => `(tactic| with_reducible refine z_notNI ?_)
local macro_rules | `(tactic| walk_at "z") => `(tactic| with_reducible refine z_notNN ?_)
local macro_rules | `(tactic| walk_at "z") => `(tactic| with_reducible refine z_gsub ?_)
local macro_rules | `(tactic| walk_at "z") => `(tactic| with_reducible refine z_isNb ?_)
local macro_rules | `(tactic| walk_at "z") => `(tactic| with_reducible refine z_notNb ?_)
local macro_rules | `(tactic| walk_at "z") => `(tactic| ((with_reducible refine' z_nlR ?zl1 ?_); (case zl1 => exact Nat.le_of_ble_eq_true rfl); intro p H' hp hs he))
local macro_rules | `(tactic| walk_at "z") => `(tactic| ((with_reducible refine' z_repR ?zl1 ?zl2 ?_); (case zl1 => omega); (case zl2 => omega)))
local macro_rules | `(tactic| walk_at "z") => `(tactic| ((with_reducible refine' z_repL ?zl1 ?zl2 ?_); (case zl1 => omega); (case zl2 => omega)))
local macro_rules | `(tactic| walk_at "z") => `(tactic| ((with_reducible refine' z_lenLst ?zl1 ?_); (case zl1 => walk_at "up")))
local macro_rules | `(tactic| walk_at "z") => `(tactic| ((with_reducible refine' z_cat ?zl1 ?zl2 ?zl3 ?_); (case zl1 => walk_at "up"); (case zl2 => walk_at "up"); (case zl3 => (simp only [List.length_map, List.length_cons, List.length_nil, List.length_append, List.length_replicate]; omega)); intro p H' hp hs he))
local macro_rules | `(tactic| walk_at "z") => `(tactic| with_reducible refine z_sfl ?_)
local macro_rules | `(tactic| walk_at "z") => `(tactic| with_reducible refine z_lcES ?_)
local macro_rules | `(tactic| walk_at "z") => `(tactic| with_reducible refine z_lcMS ?_)
local macro_rules | `(tactic| walk_at "z") => `(tactic| with_reducible refine z_foES ?_)
local macro_rules | `(tactic| walk_at "z") => `(tactic| with_reducible refine z_fo3S ?_)
local macro_rules | `(tactic| walk_at "z") => `(tactic| with_reducible refine z_sta ?_)
local macro_rules | `(tactic| walk_at "z") => `(tactic| with_reducible refine z_sta1 ?_)
local macro_rules | `(tactic| walk_at "z") => `(tactic| with_reducible refine z_lcTS ?_)
local macro_rules | `(tactic| walk_at "z") => `(tactic| with_reducible refine z_foTS ?_)
local macro_rules | `(tactic| walk_at "z") => `(tactic| with_reducible refine z_revTS ?_)
local macro_rules | `(tactic| walk_at "z") => `(tactic| with_reducible refine z_max2 ?_)
local macro_rules | `(tactic| walk_at "z") => `(tactic| with_reducible refine z_fldS ?_)
local macro_rules | `(tactic| walk_at "z") => `(tactic| ((with_reducible refine' z_fdt ?zc1 ?zc2 ?zl2 ?_); (case zc1 => exact Lw.cl_Ratio (by assumption)); (case zc2 => exact Lw.na_Ratio_top (by assumption)); (case zl2 => walk_at "up")))
local macro_rules | `(tactic| walk_at "z") => `(tactic| ((with_reducible refine' z_fdb ?zc1 ?zc2 ?zl2 ?_); (case zc1 => exact Lw.cl_Ratio (by assumption)); (case zc2 => exact Lw.na_Ratio_bottom (by assumption)); (case zl2 => walk_at "up")))
local macro_rules | `(tactic| walk_at "z") => `(tactic| ((with_reducible refine' z_fldt ?zc1 ?zc2 ?zl1 ?zl2 ?_); (case zc1 => exact Lw.cl_Ratio (by assumption)); (case zc2 => exact Lw.na_Ratio_top (by assumption)); (case zl1 => exact rfl); (case zl2 => walk_at "up")))
local macro_rules | `(tactic| walk_at "z") => `(tactic| ((with_reducible refine' z_fldb ?zc1 ?zc2 ?zl1 ?zl2 ?_); (case zc1 => exact Lw.cl_Ratio (by assumption)); (case zc2 => exact Lw.na_Ratio_bottom (by assumption)); (case zl1 => exact rfl); (case zl2 => walk_at "up")))
local macro_rules | `(tactic| walk_at "z") => `(tactic| ((with_reducible refine' z_fldG ?zc1 ?zc2 ?zl0 ?zl1 ?zl2 ?_); (case zc1 => exact Lw.cl_Poly (by assumption)); (case zc2 => exact Lw.na_Poly_numbers (by assumption)); (case zl0 => exact rfl); (case zl1 => walk_at "up"); (case zl2 => exact lkA)))
local macro_rules | `(tactic| walk_at "z") => `(tactic| ((with_reducible refine' z_fldG ?zc1 ?zc2 ?zl0 ?zl1 ?zl2 ?_); (case zc1 => exact Lw.cl_Poly (by assumption)); (case zc2 => exact Lw.na_Poly_over (by assumption)); (case zl0 => exact rfl); (case zl1 => walk_at "up"); (case zl2 => exact lkO)))
local macro_rules | `(tactic| walk_at "z") => `(tactic| ((with_reducible refine' z_fldG ?zc1 ?zc2 ?zl0 ?zl1 ?zl2 ?_); (case zc1 => exact Lw.cl_Poly (by assumption)); (case zc2 => exact Lw.na_Poly_degree (by assumption)); (case zl0 => exact rfl); (case zl1 => walk_at "up"); (case zl2 => exact lkD)))
local macro_rules | `(tactic| walk_at "z") => `(tactic| ((with_reducible refine' z_glst ?zl1 ?zl2 ?_); (case zl1 => walk_at "up"); (case zl2 => exact rfl)))
theorem same66f {H H1 H2 : Hp} (h : Same H1 H2) (e : Same H H1) : Same H H2 := e.trans h
local macro_rules | `(tactic| walk_at "sm") => `(tactic| first
  | assumption
  | exact fun _ _ h => h
  | (refine' same66f (by assumption) ?zsm; case zsm => walk_at "sm"))
open S31 (cf)
open S30
theorem z_ixcf {K : Frag} {H : Hp} {Q : VK} {a : Addr} {ns : List Int} {k : Int} {j : Nat} (h : H a = some (.lst (ns.map V.int))) (e : k = (j : Int)) (h1 : j < ns.length) (q : Q (.int (cf ns j)) H) : rIx K (.ref a) (.int k) H Q := by
  subst e
  exact z_ixC h (by omega) (by omega) (by rw [Int.toNat_natCast]; exact q)
def fs_psum (K : Frag) : F3 := fun x y z H Q _ => ∃ (p r : Addr) (a b c a' b' c' : Rat) (N M : Nat), x = .ref p ∧ y = .ref r ∧ (∃ sg : Int, (sg = 1 ∨ sg = -1) ∧ z = .int sg ∧ QP K H p a b c N ∧ QP K H r a' b' c' M ∧ (N + M ≤ 8990 ∧ N ≤ 5990 ∧ M ≤ 5990) ∧ ∀ w H', Same H H' → QP K H' w (a + sg * a') (b + sg * b') (c + sg * c') (N + M + N + M + 1) → Q (.ref w) H')
def fs_padd (K : Frag) : F2 := fun x y H Q _ => ∃ (p r : Addr) (a b c a' b' c' : Rat) (N M : Nat), x = .ref p ∧ y = .ref r ∧ QP K H p a b c N ∧ QP K H r a' b' c' M ∧ (N + M ≤ 8990 ∧ N ≤ 5990 ∧ M ≤ 5990) ∧ ∀ w H', Same H H' → QP K H' w (a + a') (b + b') (c + c') (N + M + N + M + 1) → Q (.ref w) H'
theorem _root_.Z.Bits.cast {a : Nat} {i j : Int} (h : Bits a i) (e : i = j) : Bits a j := by
  subst e
  exact h
theorem cf_zero (n k : Nat) : cf ((List.range n).map fun _ => (0 : Int)) k = 0 := by
  unfold cf
  rw [List.getD_eq_getElem?_getD, List.getElem?_map]
  cases h : (List.range n)[k]? <;> rfl
theorem map_zero (n : Nat) : (List.range n).map (fun _ => V.int 0) = ((List.range n).map fun _ => (0 : Int)).map V.int := by rw [List.map_map] <;> rfl
local macro_rules | `(tactic| walk_at "up") => `(tactic| first
  | assumption
  | (with_reducible refine' IsR.mono (by assumption) ?zup; case zup => walk_at "up")
  | (with_reducible refine' IsV.mono (by assumption) ?zup; case zup => walk_at "up")
  | (with_reducible refine' IsQ.mono (by assumption) ?zup; case zup => walk_at "up")
  | (with_reducible refine' QP.mono (by assumption) ?zup; case zup => walk_at "up")
  | (with_reducible refine' Same.at (by assumption) ?zup; case zup => walk_at "up")
  | fail)
section
variable {P : Program} {w : World} {K : Frag} {mg : Str → Option Value} {base : Heap}
theorem ok_poly_sum (L : Lw K mg) {fd : FuncData} (F : FunD K "poly_sum" "poly_sum" (defArgs s_poly_sum) (defBody s_poly_sum) (defScope s_poly_sum) (df_poly_sum.dvs K) (df_poly_sum.kws K) (He.fAd K ("poly_sum", none)) fd) : FnOk P w K mg base (L2N.CX P w) 7 (He.fAd K ("poly_sum", none)) fd (["p", "q", "sign"] : List Str) (sp3 (fs_psum K)) := by
  refine FunD.ok F sc_poly_sum len3 (fun cdv A outer s H vs Q E hr h => ?_)
  obtain ⟨a, b, c, rfl, h⟩ := h
  refine ⟨_, (pss_cons (ps_set (i := 3) sc_poly_sum.nd rfl (by first | exact Or.inl rfl | exact Or.inr rfl) (pe_callBfun cr_lcm rfl L.v_lcm (pa_cons (pe_fld (pv 0) rfl) (pa_cons (pe_fld (pv 1) rfl) pa_nil))))
    (pss_cons (ps_setLc (i := 4) (own := [("k", 5)]) (g := (gName 5)) (tt := tYes) rfl sc_poly_sum.nd rfl rfl (sw_true rfl rfl rfl (by decide +kernel)) (pi_range1 (by rfl) L.f_range (pa_cons (pe_op o_cat (pe_callB (o_max2 rfl) (by rfl) L.f_max (by decide +kernel) (pa_cons (pe_fld (pv 0) rfl) (pa_cons (pe_fld (pv 1) rfl) pa_nil))) pe_int) pa_nil)) (blkOk_by (N := ["p", "q", "sign", "over", "found", "k", "factor", "number"]) (sc := defScope s_poly_sum) (by decide +kernel)) (fun _ _ _ _ _ => pg_name (i := 5) sc_poly_sum.nd rfl (Or.inl rfl)) (fun _ _ _ _ _ => pts_nil) (fun _ _ _ _ _ => pe_int))
    (pss_cons (ps_set (i := 6) sc_poly_sum.nd rfl (by first | exact Or.inl rfl | exact Or.inr rfl) (pe_op o_div (pv 3) (pe_fld (pv 0) rfl)))
    (pss_cons (ps_for (passes_of rfl) rfl (piK (fun K => iEnumM K _) (K := K) rfl (pi_enumM (by rfl) L.f_enumerate (pa_cons (pe_fld (pv 0) rfl) pa_nil))) (pg_tup (by rfl) (pgs_cons (pg_name (i := 5) sc_poly_sum.nd rfl (by first | exact Or.inl rfl | exact Or.inr rfl)) (pgs_cons (pg_name (i := 7) sc_poly_sum.nd rfl (by first | exact Or.inl rfl | exact Or.inr rfl)) pgs_nil))) (pss_one (ps_asg (pe_op o_rep (pv 6) (pv 7)) (pg_sub (pv 4) (pv 5) set_list))))
    (pss_cons (ps_set (i := 6) sc_poly_sum.nd rfl (by first | exact Or.inl rfl | exact Or.inr rfl) (pe_op o_rep (pv 2) (pe_op o_div (pv 3) (pe_fld (pv 1) rfl))))
    (pss_cons (ps_for (passes_of rfl) rfl (piK (fun K => iEnumM K _) (K := K) rfl (pi_enumM (by rfl) L.f_enumerate (pa_cons (pe_fld (pv 1) rfl) pa_nil))) (pg_tup (by rfl) (pgs_cons (pg_name (i := 5) sc_poly_sum.nd rfl (by first | exact Or.inl rfl | exact Or.inr rfl)) (pgs_cons (pg_name (i := 7) sc_poly_sum.nd rfl (by first | exact Or.inl rfl | exact Or.inr rfl)) pgs_nil))) (pss_one (ps_asg (pe_op o_cat (pe_ix (ix_seqK (K := K) rfl) (pv 4) (pv 5) (fun _ _ => rfl)) (pe_op o_rep (pv 6) (pv 7))) (pg_sub (pv 4) (pv 5) set_list))))
    (pss_one (ps_ret (pe_sm (c_Poly_made (K := K) L) hr (by decide) (L2N.takes_of rfl rfl rfl rfl) (pe_cls L.g_Poly) (pa_cons (pv 4) (pa_cons (pv 3) pa_nil))))))))))), ?_⟩
  obtain ⟨p, r, a, b, c, a', b', c', N, M, rfl, rfl, sg, hsg, rfl, ⟨ls, o, ⟨dx, tu, hp, htu⟩, hl, o0, bo, bl, ht, ea, eb, ec, hcop⟩, ⟨ms, o', ⟨dx', tu', hp', htu'⟩, hl', o0', bo', bl', ht', ea', eb', ec', hcop'⟩, hN, k⟩ := h
  obtain ⟨hN, hN1, hN2⟩ := hN
  obtain ⟨l0, l1, l2, l3⟩ := lcm_facts o0 o0'
  have l3 := l3 N M bo bo'
  walk_at "zz"
  refine z_lcm bo bo' (by omega) (by omega) ?_
  generalize ((Nat.lcm o.natAbs o'.natAbs : Nat) : Int) = L at *
  have f1 := Int.ediv_mul_cancel l1
  have f2 := Int.ediv_mul_cancel l2
  have bf1 : Bits (N + M) (L / o) := l3.div
  have bf2 : Bits (N + M) (L / o') := l3.div
  have bf3 : Bits (N + M) (sg * (L / o')) := by
    rcases hsg with rfl | rfl
    · exact bf2.cast (by omega)
    · exact bf2.neg.cast (by omega)
  walk_at "zz"
  refine z_lcR (fun _ => V.int 0) (by omega) (by omega) (fun j H4 N4 hj s4 cc => ⟨rfl, ?_⟩) (fun D HD hD sD hlD => ?_)
  · walk_at "zz"
    exact cc _ (fun _ _ h => h)
  obtain ⟨n, en⟩ : ∃ n : Nat, n = (max ((ls.length : Int) - 1) ((ms.length : Int) - 1) + 1).toNat := ⟨_, rfl⟩
  rw [← en, map_zero] at hlD
  have n1 : ls.length ≤ n := by omega
  have n2 : ms.length ≤ n := by omega
  have n3 : n ≤ 3 := by omega
  walk_at "zz"
  refine z_div o0 (bo.up (Nat.le_succ N)) (by omega) (by omega) ?_
  walk_at "zz"
  refine z_foE (k := true) (xs := ls.map V.int) (fun i σ' H' => ∃ (ns : List Int) (x5 x7 : Option V), σ' = [some (.ref p), some (.ref r), some (.int sg), some (.int L), some (.ref D), x5, some (.int (L / o)), x7] ∧ Same H H' ∧ H' D = some (.lst (ns.map V.int)) ∧ ns.length = n ∧ ∀ k, cf ns k = if k < i then L / o * cf ls k else 0) ⟨_, _, _, rfl, sD, hlD, by simp, fun k => by rw [cf_zero]; simp⟩ (fun i σ' H' z => by obtain ⟨ns, x5, x7, _, s, _⟩ := z; exact SqK.T (s _ _ htu)) ?_ ?_
  · rintro i x σ' H' hx ⟨ns, x5, x7, rfl, sH, hq, lns, cns⟩ H2 s2
    obtain ⟨hi, rfl⟩ := map_at hx
    walk_at "zz"
    refine z_repU bf1 (bl i) (by omega) ?_
    walk_at "zz"
    refine z_setL (j := i) (s2 _ _ hq) rfl (by rw [List.length_map]; omega) ?_
    rw [set_int]
    refine ⟨_, _, _, rfl, Same.put (sH.trans s2) hD, upd_same, by rw [List.length_set]; exact lns, fun k => ?_⟩
    rw [cf_set (by omega)]
    by_cases e : k = i
    · rw [if_pos e, if_pos (by omega), e]
    · rw [if_neg e, cns]
      by_cases q : k < i
      · rw [if_pos q, if_pos (by omega)]
      · rw [if_neg q, if_neg (by omega)]
  rintro σ' H' ⟨ns, x5, x7, rfl, sH, hq, lns, cns⟩
  have cns' : ∀ k, cf ns k = L / o * cf ls k := fun k => by
    rw [cns]
    split
    · rfl
    · rename_i q
      rw [List.length_map] at q
      rw [S31.cf_out (by omega), Int.mul_zero]
  walk_at "zz"
  refine z_div o0' (bo'.up (Nat.le_succ M)) (by omega) (by omega) ?_
  walk_at "zz"
  refine z_foE (k := true) (xs := ms.map V.int) (fun i σ' H' => ∃ (ns : List Int) (x5 x7 : Option V), σ' = [some (.ref p), some (.ref r), some (.int sg), some (.int L), some (.ref D), x5, some (.int (sg * (L / o'))), x7] ∧ Same H H' ∧ H' D = some (.lst (ns.map V.int)) ∧ ns.length = n ∧ ∀ k, cf ns k = L / o * cf ls k + if k < i then sg * (L / o') * cf ms k else 0) ⟨_, _, _, rfl, sH, hq, lns, fun k => by rw [cns']; simp⟩ (fun i σ' H' z => by obtain ⟨ns, x5, x7, _, s, _⟩ := z; exact SqK.T (s _ _ htu')) ?_ ?_
  · rintro i x σ' H' hx ⟨ns, x5, x7, rfl, sH, hq, lns, cns⟩ H2 s2
    obtain ⟨hi, rfl⟩ := map_at hx
    walk_at "zz"
    refine z_ixcf (j := i) (s2 _ _ hq) rfl (by omega) ?_
    walk_at "zz"
    refine z_repU bf3 (bl' i) (by omega) ?_
    walk_at "zz"
    refine z_setL (j := i) (s2 _ _ hq) rfl (by rw [List.length_map]; omega) ?_
    rw [set_int]
    refine ⟨_, _, _, rfl, Same.put (sH.trans s2) hD, upd_same, by rw [List.length_set]; exact lns, fun k => ?_⟩
    rw [cf_set (by omega), cns]
    by_cases e : k = i
    · rw [if_pos e, if_neg (by omega), if_pos (by omega), e, Int.add_zero]
    · rw [if_neg e, cns]
      by_cases q : k < i
      · rw [if_pos q, if_pos (by omega)]
      · rw [if_neg q, if_neg (by omega)]
  rintro σ' H' ⟨ns2, x5, x7, rfl, sH2, hq2, lns2, cns2⟩
  have cns2' : ∀ k, cf ns2 k = L / o * cf ls k + sg * (L / o') * cf ms k := fun k => by
    rw [cns2]
    split
    · rfl
    · rename_i q
      rw [List.length_map] at q
      rw [S31.cf_out (show ms.length ≤ k by omega), Int.mul_zero]
  walk_at "zz"
  refine u_made hq2 (by omega) (by omega) (l3.up (by omega)) (fun x H3 ls' o3 s3 hx lw => ?_)
  have f1' : ((L / o : Int) : Rat) * (o : Rat) = (L : Rat) := by rw [← Rat.intCast_mul, f1]
  have f2' : ((L / o' : Int) : Rat) * (o' : Rat) = (L : Rat) := by rw [← Rat.intCast_mul, f2]
  have ek : ∀ k (u u' : Rat), (cf ls k : Rat) = u * o → (cf ms k : Rat) = u' * o' → (cf ns2 k : Rat) = (u + sg * u') * (L : Rat) := fun k u u' e e' => by
    rw [cns2', Rat.intCast_add, Rat.intCast_mul, Rat.intCast_mul, Rat.intCast_mul, e, e']
    grind
  refine k x H3 (sH2.trans s3) (QP.of hx lw l0 (by omega) (l3.up (by omega)) (fun k => ?_) (ek 0 a a' ea ea') (ek 1 b b' eb eb') (ek 2 c c' ec ec'))
  rw [cns2']
  exact Bits.up (Bits.add (a := N + M + N + M) (Bits.up (bf1.mul (bl k)) (by omega)) (Bits.up (bf3.mul (bl' k)) (by omega))) (Nat.le_refl _)
theorem c_poly_sum (L : Lw K mg) : Cal P w K mg base 7 "poly_sum" (sp3 (fs_psum K)) [] := by
  obtain ⟨fd, F⟩ := L.d_poly_sum
  exact ⟨⟨_, fd, ["p", "q", "sign"], [], ok_poly_sum L F, L.g_poly_sum, F.kp, F.bindsN (fun _ _ _ _ _ _ us hl => match us, hl with | [_, _, _], _ => rfl), .nil⟩⟩
theorem ok_PolyD_addD (L : Lw K mg) {fd : FuncData} (F : FunD K "__add__" "Poly.__add__" (defArgs s_PolyD_addD) (defBody s_PolyD_addD) (defScope s_PolyD_addD) (df_PolyD_addD.dvs K) (df_PolyD_addD.kws K) (He.fAd K ("Poly", some "__add__")) fd) : FnOk P w K mg base (L2N.CX P w) 8 (He.fAd K ("Poly", some "__add__")) fd (["self", "other"] : List Str) (sp2 (fs_padd K)) := by
  refine FunD.ok F sc_PolyD_addD len2 (fun cdv A outer s H vs Q E hr h => ?_)
  obtain ⟨a, b, rfl, h⟩ := h
  refine ⟨_, (pss_one (ps_ret (pe_c (c_poly_sum (K := K) L) hr (by decide) (L2N.takes_of rfl rfl rfl rfl) (pa_cons (pv 0) (pa_cons (pv 1) (pa_cons pe_int pa_nil)))))), ?_⟩
  obtain ⟨p, r, a, b, c, a', b', c', N, M, rfl, rfl, h1, h2, hN, k⟩ := h
  walk_at "zz"
  exact ⟨_, _, _, rfl, p, r, a, b, c, a', b', c', N, M, rfl, rfl, 1, .inl rfl, rfl, h1, h2, hN, fun w H' s q => k w H' s (q.cast (by rw [show ((1 : Int) : Rat) = 1 from rfl]; grind) (by rw [show ((1 : Int) : Rat) = 1 from rfl]; grind) (by rw [show ((1 : Int) : Rat) = 1 from rfl]; grind))⟩
theorem c_PolyD_addD (L : Lw K mg) : Met P w K mg base 8 (He.ga K "Poly") "__add__" (sp2 (fs_padd K)) [] := by
  obtain ⟨fd, F⟩ := L.d_PolyD_addD
  exact ⟨⟨_, fd, ["self", "other"], [], L.cl_Poly, L.me_PolyD_addD, ok_PolyD_addD L F, F.bindsN (fun _ _ _ _ _ _ us hl => match us, hl with | [_, _], _ => rfl), .nil⟩⟩
end
end T
set_option maxHeartbeats 4000000
namespace T
open PySem PySem.Spec PyProof.Rows L2 Z
open S31 (cf)
open S30
theorem z_ixLst {K : Frag} {H : Hp} {Q : VK} {xs : List V} {p : Addr} {i : Int} {v : V} (h : H p = some (.lst xs)) (e : atI xs i = some v) (q : Q v H) : rIx K (.ref p) (.int i) H Q := z_ixL (SqL.of h) e q
theorem u_mtV {K : Frag} {H : Hp} {p : Addr} {v : Rat} {B : Nat} {m : Str} {R : Prop} (h : IsV K H p v B) (q : R) (h1 : ¬ m = "top" := by decide +kernel) (h2 : ¬ m = "bottom" := by decide +kernel) : zMt (He.ga K "Ratio") m (.ref p) H R := by
  obtain ⟨t, b, hr, _⟩ := h
  exact z_mtR hr q h1 h2
/-- a Ratio with a small bottom -/
def IsW (K : Frag) (H : Hp) (p : Addr) (v : Rat) (B : Nat) : Prop := ∃ t b : Int, IsR K H p t b ∧ 0 < b ∧ Bits B t ∧ Bits 110 b ∧ (t : Rat) = v * (b : Rat)
theorem IsW.monoN {K : Frag} {H H' : Hp} {p : Addr} {v : Rat} {B : Nat} (s : SameN H H') (h : IsW K H p v B) : IsW K H' p v B := by
  obtain ⟨t, b, h1, h⟩ := h
  exact ⟨t, b, IsR.monoN s h1, h⟩
theorem IsW.mono {K : Frag} {H H' : Hp} {p : Addr} {v : Rat} {B : Nat} (s : Same H H') (h : IsW K H p v B) : IsW K H' p v B := h.monoN (SameN.of s)
def itW (K : Frag) (v : Sq) (B : Nat) : Hp → V → Nat → Prop := fun H x k => ∃ a, x = .ref a ∧ IsW K H a (v k) B
theorem itW_mono {K : Frag} {v : Sq} {B : Nat} : Mono (itW K v B) := fun H H' x k s h => by
  obtain ⟨a, e, h⟩ := h
  exact ⟨a, e, h.monoN s⟩
theorem u_mkW {K : Frag} {H : Hp} {Q : VK} {E : XK} {n d : Int} {v : Rat} {B : Nat} (hd : 0 < d) (h1 : Bits B n) (h2 : Bits 110 d) (e : (n : Rat) = v * d) (k : ∀ p H', Same H H' → IsW K H' p v B → Q (.ref p) H') :
    zMk (He.ga K "Ratio") (sp3 (fs_rinit K)) [] E [.int n, .int d] H Q :=
  z_mkR (by omega) (h2.up (by decide)) fun p H' s h => k p H' s ⟨_, _, h, (rt_spec hd).1, rt_bits hd h1, rb_bits hd h2, rt_val hd e⟩
/-- three Ratios in a list or a tuple -/
def R3 (K : Frag) (H : Hp) (s : Addr) (v0 v1 v2 : Rat) (B : Nat) : Prop := ∃ x0 x1 x2 : Addr, (H s = some (.lst [.ref x0, .ref x1, .ref x2]) ∨ H s = some (.tup [.ref x0, .ref x1, .ref x2])) ∧ IsW K H x0 v0 B ∧ IsW K H x1 v1 B ∧ IsW K H x2 v2 B
theorem R3.mono {K : Frag} {H H' : Hp} {s : Addr} {v0 v1 v2 : Rat} {B : Nat} (e : Same H H') (h : R3 K H s v0 v1 v2 B) : R3 K H' s v0 v1 v2 B := by
  obtain ⟨x0, x1, x2, h, h0, h1, h2⟩ := h
  exact ⟨x0, x1, x2, h.imp (e _ _) (e _ _), h0.mono e, h1.mono e, h2.mono e⟩
theorem three_at {a b c x : V} {k : Nat} (h : [a, b, c][k]? = some x) : (k = 0 ∧ x = a) ∨ (k = 1 ∧ x = b) ∨ (k = 2 ∧ x = c) := by
  match k, h with
  | 0, h => exact .inl ⟨rfl, (Option.some.inj h).symm⟩
  | 1, h => exact .inr (.inl ⟨rfl, (Option.some.inj h).symm⟩)
  | 2, h => exact .inr (.inr ⟨rfl, (Option.some.inj h).symm⟩)
def fs_quad (K : Frag) : F1 := fun x H Q _ => ∃ (s : Addr) (v0 v1 v2 : Rat) (B : Nat), x = .ref s ∧ R3 K H s v0 v1 v2 B ∧ 1 ≤ B ∧ B ≤ 1000 ∧ ∀ z H', Same H H' → QP K H' z v0 v1 v2 (B + 330) → Q (.ref z) H'
def fs_w3 (K : Frag) : F1 := fun x H Q _ => ∃ (p : Addr) (a b c : Rat) (N : Nat), x = .ref p ∧ QP K H p a b c N ∧
  ∀ l H' (A B C o : Int), Same H H' → H' l = some (.lst [.int A, .int B, .int C]) → 0 < o → Bits N A → Bits N B → Bits N C → (A : Rat) = a * o → (B : Rat) = b * o → (C : Rat) = c * o → Q (.ref l) H'
theorem u_w3 {K : Frag} {H : Hp} {Q : VK} {E : XK} {p : Addr} {a b c : Rat} {N : Nat} (h : QP K H p a b c N)
    (k : ∀ l H' (A B C o : Int), Same H H' → H' l = some (.lst [.int A, .int B, .int C]) → 0 < o → Bits N A → Bits N B → Bits N C → (A : Rat) = a * o → (B : Rat) = b * o → (C : Rat) = c * o → Q (.ref l) H') : sp1 (fs_w3 K) [.ref p] H Q E := ⟨_, rfl, p, a, b, c, N, rfl, h, k⟩
theorem take3 {ls : List Int} (h : ls.length ≤ 3) : cutV (ls.map V.int ++ [V.int 0, V.int 0, V.int 0]) none (some 3) = [V.int (cf ls 0), V.int (cf ls 1), V.int (cf ls 2)] := by
  have e : ∀ xs : List V, cutV xs none (some 3) = xs.take 3 := fun xs => cut_hi (n := 3)
  rw [e]
  match ls, h with
  | [], _ => rfl
  | [x], _ => rfl
  | [x, y], _ => rfl
  | [x, y, z], _ => rfl
theorem rv_qv {A B C o : Int} {a b c : Rat} (ea : (A : Rat) = a * o) (eb : (B : Rat) = b * o) (ec : (C : Rat) = c * o) (k : Int) : ((S66.qv A B C k : Int) : Rat) = S66.rv a b c k * o := by
  rw [← S66.rv_int, ea, eb, ec]
  unfold S66.rv
  grind
theorem qv_neg {A B C o : Int} {a b c : Rat} (o0 : 0 < o) (ea : (A : Rat) = a * o) (eb : (B : Rat) = b * o) (ec : (C : Rat) = c * o) (k : Int) : S66.qv A B C k < 0 ↔ S66.rv a b c k < 0 := (sgn_cast o0 (rv_qv ea eb ec k)).1
def fs_fb (K : Frag) : F2 := fun x y H Q _ => ∃ (p : Addr) (a b c : Rat) (N : Nat) (n : Int), x = .ref p ∧ y = .int n ∧ QP K H p a b c N ∧ 1 ≤ n ∧ n ≤ 200 ∧
  (∀ (k : Int) H', Same H H' → 1 ≤ k → k ≤ n → S66.rv a b c k < 0 → Q (.int k) H') ∧ (∀ H', Same H H' → (∀ k : Int, 1 ≤ k → k ≤ n → 0 ≤ S66.rv a b c k) → Q .non H')
def fs_nb (K : Frag) : F1 := fun x H Q _ => ∃ (p : Addr) (a b c : Rat) (N : Nat), x = .ref p ∧ QP K H p a b c N ∧ N ≤ 100000 ∧ ∀ r H', Same H H' → (r = true ↔ ∀ x, 0 ≤ S66.rv a b c x) → Q (.bl r) H'
def fs_bp (K : Frag) : F2 := fun x y H Q _ => ∃ (k n : Int), x = .int k ∧ y = .int n ∧ 0 ≤ k ∧ k ≤ 200 ∧ 1 ≤ n ∧ n ≤ 200 ∧
  ∀ z H', Same H H' → (k = 0 → QP K H' z (-(n : Rat)) ((n : Rat) + 1) (-1) 18) → (k ≠ 0 → QP K H' z ((k : Rat) * ((k : Rat) + 1)) (-2 * (k : Rat) - 1) 1 18) → Q (.ref z) H'
def fs_scinit (K : Frag) : F3 := fun a b c H Q _ => ∃ (x dx s : Addr) (H0 : Hp) (n : Int) (xs : List V), a = .ref x ∧ b = .int n ∧ c = .ref s ∧ H = upd (upd H0 dx (.own x)) x (.ins (He.ga K "SixClaim") dx []) ∧ H0 x = none ∧ H0 dx = none ∧ dx ≠ x ∧
  H0 s = some (.lst xs) ∧ xs.length = 3 ∧ 2 ≤ n ∧ n ≤ 200 ∧ ∀ H' t, Same H0 H' → H' x = some (.ins (He.ga K "SixClaim") dx [("letters", .int n), ("numbers", .ref t)]) → H' t = some (.tup xs) → Q .non H'
def fs_spinit (K : Frag) : F4 := fun a b c d H Q _ => ∃ (x dx : Addr) (H0 : Hp) (n : Int), a = .ref x ∧ b = .int n ∧ H = upd (upd H0 dx (.own x)) x (.ins (He.ga K "SixPaper") dx []) ∧ H0 x = none ∧ H0 dx = none ∧ dx ≠ x ∧
  0 ≤ n ∧ n ≤ 200 ∧ ∀ H', Same H0 H' → H' x = some (.ins (He.ga K "SixPaper") dx [("block", .int n), ("amount", c), ("rest", d)]) → Q .non H'
def IsSC (K : Frag) (H : Hp) (x : Addr) (n : Int) (v0 v1 v2 : Rat) (B : Nat) : Prop := ∃ dx t, H x = some (.ins (He.ga K "SixClaim") dx [("letters", .int n), ("numbers", .ref t)]) ∧ R3 K H t v0 v1 v2 B
theorem IsSC.mono {K : Frag} {H H' : Hp} {x : Addr} {n : Int} {v0 v1 v2 : Rat} {B : Nat} (e : Same H H') (h : IsSC K H x n v0 v1 v2 B) : IsSC K H' x n v0 v1 v2 B := by
  obtain ⟨dx, t, h1, h2⟩ := h
  exact ⟨dx, t, e _ _ h1, h2.mono e⟩
theorem cmp_ge {v w : Rat} (h : w ≤ v) : ¬ cmpQ v w < 0 := by
  unfold cmpQ
  rw [if_neg (by grind)]
  split <;> decide
theorem cmp_le {v w : Rat} (h : v ≤ w) : ¬ 0 < cmpQ v w := by
  unfold cmpQ
  split
  · decide
  · rw [if_neg (by grind)] <;> decide
local macro_rules | `(tactic| walk_at "up") => `(tactic| first
  | assumption
  | (refine' IsR.mono (by assumption) ?zup; case zup => walk_at "up")
  | (refine' IsE.mono (by assumption) ?zup; case zup => walk_at "up")
  | (refine' Same.at (by assumption) ?zup; case zup => walk_at "up")
  | (refine' SqL.of ?zup; case zup => walk_at "up")
  | (refine' L2.Same.seq (by assumption) ?zup; case zup => walk_at "up"))
local macro_rules | `(tactic| walk_at "z") => `(tactic| first
  | ((with_reducible refine' z_var ?zvh ?_); (case zvh => exact rfl))
  | with_reducible refine z_c ?_
  | with_reducible refine z_cons ?_
  | with_reducible refine z_nil ?_
  | with_reducible refine z_op ?_
  | with_reducible refine z_nx ?_
  | with_reducible refine z_seq ?_
  | with_reducible refine z_asg ?_
  | with_reducible refine z_asgG ?_
  | with_reducible refine z_call ?_
  | with_reducible refine z_sq0 ?_
  | with_reducible refine z_sq1 ?_
  | with_reducible refine z_ifS ?_
  | with_reducible refine z_test ?_
  | with_reducible refine z_tb ?_
  | with_reducible refine z_bl ?_
  | with_reducible refine z_blI ?_
  | with_reducible refine z_ret ?_
  | with_reducible refine z_rt ?_
  | with_reducible refine z_T ?_
  | with_reducible refine z_F ?_
  | with_reducible refine z_add ?_
  | with_reducible refine z_sub ?_
  | with_reducible refine z_neg ?_
  | with_reducible refine z_un ?_
  | with_reducible refine z_eqI ?_
  | with_reducible refine z_neI ?_
  | with_reducible refine z_lt ?_
  | with_reducible refine z_le ?_
  | with_reducible refine z_gt ?_
  | with_reducible refine z_ge ?_
  | with_reducible refine z_not ?_
  | with_reducible refine z_and ?_
  | with_reducible refine z_or ?_
  | with_reducible refine z_andV ?_
  | with_reducible refine z_orV ?_
  | with_reducible refine z_notV ?_
  | with_reducible refine z_if ?_
  | with_reducible refine z_cb ?_
  | with_reducible refine z_int1 ?_
  | with_reducible refine z_intb ?_
  | with_reducible refine z_abs ?_
  | with_reducible refine z_gcd ?_
  | with_reducible refine z_isi_ii ?_
  | with_reducible refine z_isi_ib ?_
  | with_reducible refine z_next ?_
  | with_reducible refine z_drop ?_
  | with_reducible refine z_par ?_
  | with_reducible refine z_par2 ?_
  | with_reducible refine z_tupN ?_
  | with_reducible refine z_lstN ?_
  | ((with_reducible refine' z_nt ?zl1 ?_); (case zl1 => exact Nat.le_of_ble_eq_true rfl); intro p H' hp hs he)
  | ((with_reducible refine' z_gtup ?zl1 ?zl2 ?_); (case zl1 => walk_at "up"); (case zl2 => exact rfl))
  | with_reducible refine z_bk ?_
  | with_reducible refine z_ct ?_
  | with_reducible refine z_break ?_
  | with_reducible refine z_cont ?_
  | with_reducible refine z_retN ?_
  | with_reducible refine z_nn ?_
  | with_reducible refine z_mk ?_
  | with_reducible refine z_gn ?_
  | with_reducible refine z_gcons ?_
  | with_reducible refine z_gnil ?_
  | with_reducible refine z_mt ?_
  | with_reducible refine z_mko ?_
  | with_reducible refine z_for2 ?_
  | with_reducible refine z_ownI ?_
  | ((with_reducible refine' z_lenL ?zl1 ?_); (case zl1 => walk_at "up"))
  | ((with_reducible refine' z_ixT ?zl1 ?zl2 ?_); (case zl1 => walk_at "up"); (case zl2 => exact rfl))
  | ((with_reducible refine' z_mulL ?zl1 ?zl2 ?_); (case zl1 => omega); (case zl2 => omega))
  | ((with_reducible refine' z_mulR ?zl1 ?zl2 ?_); (case zl1 => omega); (case zl2 => omega))
  | ((with_reducible refine' z_divS ?zl1 ?zl2 ?_); (case zl1 => omega); (case zl2 => omega))
  | ((with_reducible refine' z_mulW ?zl1 ?zl2 ?zl3 ?zl4 ?_); (case zl1 => omega); (case zl2 => omega); (case zl3 => omega); (case zl4 => omega))
  | ((with_reducible refine' z_divW ?zl1 ?zl2 ?_); (case zl1 => omega); (case zl2 => omega)))
local macro_rules | `(tactic| walk_at "zz") => `(tactic| repeat (walk_at "z"))
local macro_rules | `(tactic| walk_at "z") => `(tactic| with_reducible refine z_lstN ?_)
local macro_rules | `(tactic| walk_at "z") => `(tactic| with_reducible refine z_p6 ?_)
local macro_rules | `(tactic| walk_at "z") => `(tactic| with_reducible refine z_p12 ?_)
local macro_rules | `(tactic| walk_at "z") => `(tactic| with_reducible refine z_p13 ?_)
local macro_rules | `(tactic| walk_at "z") => `(tactic| with_reducible refine z_calln ?_)
local macro_rules | `(tactic| walk_at "z") => `(tactic| with_reducible refine z_xfS ?_)
local macro_rules | `(tactic| walk_at "z") => `(tactic| with_reducible refine z_lcS ?_)
local macro_rules | `(tactic| walk_at "z") => `(tactic| with_reducible refine z_lcRS ?_)
local macro_rules | `(tactic| walk_at "z") => `(tactic| with_reducible refine z_lcZS ?_)
local macro_rules | `(tactic| walk_at "z") => `(tactic| with_reducible refine z_foS ?_)
local macro_rules | `(tactic| walk_at "z") => `(tactic| with_reducible refine z_for1 ?_)
local macro_rules | `(tactic| walk_at "z") => `(tactic| with_reducible refine z_tsl ?_)
local macro_rules | `(tactic| walk_at "z") => `(tactic| with_reducible refine z_np ?_)
local macro_rules | `(tactic| walk_at "z") => `(tactic| with_reducible refine z_pt ?_)
local macro_rules | `(tactic| walk_at "z") => `(tactic| with_reducible refine z_pti ?_)
local macro_rules | `(tactic| walk_at "z") => `(tactic| with_reducible refine z_catI ?_)
local macro_rules | `(tactic| walk_at "z") => `(tactic| with_reducible refine z_isNI ?_)
local macro_rules | `(tactic| walk_at "z") => `(tactic| with_reducible refine z_isNN ?_)
local macro_rules | `(tactic| walk_at "z") => `(tactic| with_reducible refine z_notNI ?_)
local macro_rules | `(tactic| walk_at "z") => `(tactic| with_reducible refine z_notNN ?_)
local macro_rules | `(tactic| walk_at "z") => `(tactic| with_reducible refine z_gsub ?_)
local macro_rules | `(tactic| walk_at "z") => `(tactic| with_reducible refine z_isNb ?_)
local macro_rules | `(tactic| walk_at "z") => `(tactic| with_reducible refine z_notNb ?_)
local macro_rules | `(tactic| walk_at "z") => `(tactic| ((with_reducible refine' z_nlR ?zl1 ?_); (case zl1 => exact Nat.le_of_ble_eq_true rfl); intro p H' hp hs he))
local macro_rules | `(tactic| walk_at "z") => `(tactic| ((with_reducible refine' z_repR ?zl1 ?zl2 ?_); (case zl1 => omega); (case zl2 => omega)))
local macro_rules | `(tactic| walk_at "z") => `(tactic| ((with_reducible refine' z_repL ?zl1 ?zl2 ?_); (case zl1 => omega); (case zl2 => omega)))
local macro_rules | `(tactic| walk_at "z") => `(tactic| ((with_reducible refine' z_lenLst ?zl1 ?_); (case zl1 => walk_at "up")))
local macro_rules | `(tactic| walk_at "z") => `(tactic| ((with_reducible refine' z_cat ?zl1 ?zl2 ?zl3 ?_); (case zl1 => walk_at "up"); (case zl2 => walk_at "up"); (case zl3 => (simp only [List.length_map, List.length_cons, List.length_nil, List.length_append, List.length_replicate]; omega)); intro p H' hp hs he))
local macro_rules | `(tactic| walk_at "z") => `(tactic| with_reducible refine z_sfl ?_)
local macro_rules | `(tactic| walk_at "z") => `(tactic| with_reducible refine z_lcES ?_)
local macro_rules | `(tactic| walk_at "z") => `(tactic| with_reducible refine z_lcMS ?_)
local macro_rules | `(tactic| walk_at "z") => `(tactic| with_reducible refine z_foES ?_)
local macro_rules | `(tactic| walk_at "z") => `(tactic| with_reducible refine z_fo3S ?_)
local macro_rules | `(tactic| walk_at "z") => `(tactic| with_reducible refine z_sta ?_)
local macro_rules | `(tactic| walk_at "z") => `(tactic| with_reducible refine z_sta1 ?_)
local macro_rules | `(tactic| walk_at "z") => `(tactic| with_reducible refine z_lcTS ?_)
local macro_rules | `(tactic| walk_at "z") => `(tactic| with_reducible refine z_foTS ?_)
local macro_rules | `(tactic| walk_at "z") => `(tactic| with_reducible refine z_revTS ?_)
local macro_rules | `(tactic| walk_at "z") => `(tactic| with_reducible refine z_max2 ?_)
local macro_rules | `(tactic| walk_at "z") => `(tactic| with_reducible refine z_fldS ?_)
local macro_rules | `(tactic| walk_at "z") => `(tactic| ((with_reducible refine' z_fdt ?zc1 ?zc2 ?zl2 ?_); (case zc1 => exact Lw.cl_Ratio (by assumption)); (case zc2 => exact Lw.na_Ratio_top (by assumption)); (case zl2 => walk_at "up")))
local macro_rules | `(tactic| walk_at "z") => `(tactic| ((with_reducible refine' z_fdb ?zc1 ?zc2 ?zl2 ?_); (case zc1 => exact Lw.cl_Ratio (by assumption)); (case zc2 => exact Lw.na_Ratio_bottom (by assumption)); (case zl2 => walk_at "up")))
local macro_rules | `(tactic| walk_at "z") => `(tactic| ((with_reducible refine' z_fldt ?zc1 ?zc2 ?zl1 ?zl2 ?_); (case zc1 => exact Lw.cl_Ratio (by assumption)); (case zc2 => exact Lw.na_Ratio_top (by assumption)); (case zl1 => exact rfl); (case zl2 => walk_at "up")))
local macro_rules | `(tactic| walk_at "z") => `(tactic| ((with_reducible refine' z_fldb ?zc1 ?zc2 ?zl1 ?zl2 ?_); (case zc1 => exact Lw.cl_Ratio (by assumption)); (case zc2 => exact Lw.na_Ratio_bottom (by assumption)); (case zl1 => exact rfl); (case zl2 => walk_at "up")))
local macro_rules | `(tactic| walk_at "z") => `(tactic| ((with_reducible refine' z_fldG ?zc1 ?zc2 ?zl0 ?zl1 ?zl2 ?_); (case zc1 => exact Lw.cl_Poly (by assumption)); (case zc2 => exact Lw.na_Poly_numbers (by assumption)); (case zl0 => exact rfl); (case zl1 => walk_at "up"); (case zl2 => exact lkA)))
local macro_rules | `(tactic| walk_at "z") => `(tactic| ((with_reducible refine' z_fldG ?zc1 ?zc2 ?zl0 ?zl1 ?zl2 ?_); (case zc1 => exact Lw.cl_Poly (by assumption)); (case zc2 => exact Lw.na_Poly_over (by assumption)); (case zl0 => exact rfl); (case zl1 => walk_at "up"); (case zl2 => exact lkO)))
local macro_rules | `(tactic| walk_at "z") => `(tactic| ((with_reducible refine' z_fldG ?zc1 ?zc2 ?zl0 ?zl1 ?zl2 ?_); (case zc1 => exact Lw.cl_Poly (by assumption)); (case zc2 => exact Lw.na_Poly_degree (by assumption)); (case zl0 => exact rfl); (case zl1 => walk_at "up"); (case zl2 => exact lkD)))
local macro_rules | `(tactic| walk_at "z") => `(tactic| ((with_reducible refine' z_glst ?zl1 ?zl2 ?_); (case zl1 => walk_at "up"); (case zl2 => exact rfl)))
local macro_rules | `(tactic| walk_at "z") => `(tactic| ((with_reducible refine' z_ixLst ?zl1 ?zl2 ?_); (case zl1 => walk_at "up"); (case zl2 => exact rfl)))
local macro_rules | `(tactic| walk_at "z") => `(tactic| ((with_reducible refine' u_mtV ?zl1 ?_); (case zl1 => walk_at "up")))
local macro_rules | `(tactic| walk_at "z") => `(tactic| ((with_reducible refine' u_mtQP ?zl1 ?_); (case zl1 => walk_at "up")))
theorem same66g {H H1 H2 : Hp} (h : Same H1 H2) (e : Same H H1) : Same H H2 := e.trans h
local macro_rules | `(tactic| walk_at "sm") => `(tactic| first
  | assumption
  | exact fun _ _ h => h
  | (refine' same66g (by assumption) ?zsm; case zsm => walk_at "sm"))
local macro_rules | `(tactic| walk_at "up") => `(tactic| first
  | assumption
  | (with_reducible refine' IsR.mono (by assumption) ?zup; case zup => walk_at "up")
  | (with_reducible refine' IsV.mono (by assumption) ?zup; case zup => walk_at "up")
  | (with_reducible refine' IsQ.mono (by assumption) ?zup; case zup => walk_at "up")
  | (with_reducible refine' QP.mono (by assumption) ?zup; case zup => walk_at "up")
  | (with_reducible refine' R3.mono (by assumption) ?zup; case zup => walk_at "up")
  | (with_reducible refine' Same.at (by assumption) ?zup; case zup => walk_at "up")
  | fail)
section
variable {P : Program} {w : World} {K : Frag} {mg : Str → Option Value} {base : Heap}
theorem ok_quadratic_of (L : Lw K mg) {fd : FuncData} (F : FunD K "quadratic_of" "quadratic_of" (defArgs s_quadratic_of) (defBody s_quadratic_of) (defScope s_quadratic_of) (df_quadratic_of.dvs K) (df_quadratic_of.kws K) (He.fAd K ("quadratic_of", none)) fd) : FnOk P w K mg base (L2N.CX P w) 6 (He.fAd K ("quadratic_of", none)) fd (["numbers"] : List Str) (sp1 (fs_quad K)) := by
  refine FunD.ok F sc_quadratic_of len1 (fun cdv A outer s H vs Q E hr h => ?_)
  obtain ⟨a, rfl, h⟩ := h
  refine ⟨_, (pss_cons (ps_set (i := 1) sc_quadratic_of.nd rfl (by first | exact Or.inl rfl | exact Or.inr rfl) (pe_callBfun cr_lcm rfl L.v_lcm (pa_cons (pe_callBfun cr_lcm rfl L.v_lcm (pa_cons (pe_fld (pe_ix (ix_seqK (K := K) rfl) (pv 0) pe_int (fun _ _ => rfl)) rfl) (pa_cons (pe_fld (pe_ix (ix_seqK (K := K) rfl) (pv 0) pe_int (fun _ _ => rfl)) rfl) pa_nil))) (pa_cons (pe_fld (pe_ix (ix_seqK (K := K) rfl) (pv 0) pe_int (fun _ _ => rfl)) rfl) pa_nil))))
    (pss_one (ps_ret (pe_mk (c_PolyD_initD (K := K) L) hr (by decide) (L2N.takes_of rfl rfl rfl rfl) (pa_cons (pe_lc (own := [("number", 2)]) (g := (gName 2)) (tt := tYes) rfl sc_quadratic_of.nd (pi_or (pi_listK (K := K) rfl (pv 0)) (pi_tupK (K := K) rfl (pv 0))) (blkOk_by (N := ["numbers", "over", "number"]) (sc := defScope s_quadratic_of) (by decide +kernel)) (fun _ _ _ _ _ => pg_name (i := 2) sc_quadratic_of.nd rfl (Or.inl rfl)) (fun _ _ _ _ _ => pts_nil) (fun _ _ _ _ _ => (pe_op o_rep (pe_fldK (K := K) rfl (pv 2) rfl) (pe_op o_div (pv 1) (pe_fldK (K := K) rfl (pv 2) rfl))))) (pa_cons (pv 1) pa_nil)))))), ?_⟩
  obtain ⟨s, v0, v1, v2, B, rfl, ⟨x0, x1, x2, hs, ⟨t0, u0, h0, u00, bt0, bu0, e0⟩, ⟨t1, u1, h1, u10, bt1, bu1, e1⟩, ⟨t2, u2, h2, u20, bt2, bu2, e2⟩⟩, hB1, hB, k⟩ := h
  rcases hs with hs | hs
  · walk_at "zz"
    refine z_lcm bu0 bu1 (by decide) (by decide) ?_
    obtain ⟨l0, l1, l2, l3⟩ := lcm_facts u00 u10
    have l3 := l3 110 110 bu0 bu1
    generalize ((Nat.lcm u0.natAbs u1.natAbs : Nat) : Int) = L1 at *
    walk_at "zz"
    refine z_lcm l3 bu2 (by decide) (by decide) ?_
    obtain ⟨m0, m1, m2, m3⟩ := lcm_facts l0 u20
    have m3 := m3 (110 + 110) 110 l3 bu2
    have d0 := Int.dvd_trans l1 m1
    have d1 := Int.dvd_trans l2 m1
    generalize ((Nat.lcm L1.natAbs u2.natAbs : Nat) : Int) = L2 at *
    walk_at "zz"
    refine z_lcL1 ?_
    walk_at "zz"
    refine z_lcVF (fun j => V.int (cf [t0 * (L2 / u0), t1 * (L2 / u1), t2 * (L2 / u2)] j)) hs (Nat.le_of_ble_eq_true rfl) (fun j x H2 N2 hx s2 cc => ⟨rfl, ?_⟩) (fun D HD hD sD hlD => ?_)
    · rcases three_at hx with ⟨rfl, rfl⟩ | ⟨rfl, rfl⟩ | ⟨rfl, rfl⟩
      · walk_at "zz"
        refine z_div u00 bu0 (by decide) (by decide) ?_
        refine z_repU bt0 (m3.div) (by omega) ?_
        exact cc _ (fun _ _ h => h)
      · walk_at "zz"
        refine z_div u10 bu1 (by decide) (by decide) ?_
        refine z_repU bt1 (m3.div) (by omega) ?_
        exact cc _ (fun _ _ h => h)
      · walk_at "zz"
        refine z_div u20 bu2 (by decide) (by decide) ?_
        refine z_repU bt2 (m3.div) (by omega) ?_
        exact cc _ (fun _ _ h => h)
    have hlD' : HD D = some (.lst ([t0 * (L2 / u0), t1 * (L2 / u1), t2 * (L2 / u2)].map V.int)) := hlD
    walk_at "zz"
    refine u_mkP hlD' (Nat.le_of_ble_eq_true rfl) (by omega) (m3.up (by omega)) (fun z H3 ls o s3 hz lw => ?_)
    have key : ∀ {t u : Int} {v : Rat}, u ∣ L2 → (t : Rat) = v * u → ((t * (L2 / u) : Int) : Rat) = v * L2 := fun {t u v} d e => by
      have q : ((L2 / u : Int) : Rat) * (u : Rat) = (L2 : Rat) := by rw [← Rat.intCast_mul, Int.ediv_mul_cancel d]
      rw [Rat.intCast_mul, e, ← q]
      grind
    refine k z H3 (sD.trans s3) (QP.of hz lw m0 (Nat.le_of_ble_eq_true rfl) (m3.up (by omega)) (fun k => ?_) (key d0 e0) (key d1 e1) (key m2 e2))
    match k with
    | 0 => exact Bits.up (bt0.mul m3.div) (by omega)
    | 1 => exact Bits.up (bt1.mul m3.div) (by omega)
    | 2 => exact Bits.up (bt2.mul m3.div) (by omega)
    | k + 3 =>
      rw [S31.cf_out (by show 3 ≤ k + 3; omega)]
      exact Bits.zero
  · walk_at "zz"
    refine z_lcm bu0 bu1 (by decide) (by decide) ?_
    obtain ⟨l0, l1, l2, l3⟩ := lcm_facts u00 u10
    have l3 := l3 110 110 bu0 bu1
    generalize ((Nat.lcm u0.natAbs u1.natAbs : Nat) : Int) = L1 at *
    walk_at "zz"
    refine z_lcm l3 bu2 (by decide) (by decide) ?_
    obtain ⟨m0, m1, m2, m3⟩ := lcm_facts l0 u20
    have m3 := m3 (110 + 110) 110 l3 bu2
    have d0 := Int.dvd_trans l1 m1
    have d1 := Int.dvd_trans l2 m1
    generalize ((Nat.lcm L1.natAbs u2.natAbs : Nat) : Int) = L2 at *
    walk_at "zz"
    refine z_lcR1 ?_
    walk_at "zz"
    refine z_lcTF (fun j => V.int (cf [t0 * (L2 / u0), t1 * (L2 / u1), t2 * (L2 / u2)] j)) hs (Nat.le_of_ble_eq_true rfl) (fun j x H2 N2 hx s2 cc => ⟨rfl, ?_⟩) (fun D HD hD sD hlD => ?_)
    · rcases three_at hx with ⟨rfl, rfl⟩ | ⟨rfl, rfl⟩ | ⟨rfl, rfl⟩
      · walk_at "zz"
        refine z_div u00 bu0 (by decide) (by decide) ?_
        refine z_repU bt0 (m3.div) (by omega) ?_
        exact cc _ (fun _ _ h => h)
      · walk_at "zz"
        refine z_div u10 bu1 (by decide) (by decide) ?_
        refine z_repU bt1 (m3.div) (by omega) ?_
        exact cc _ (fun _ _ h => h)
      · walk_at "zz"
        refine z_div u20 bu2 (by decide) (by decide) ?_
        refine z_repU bt2 (m3.div) (by omega) ?_
        exact cc _ (fun _ _ h => h)
    have hlD' : HD D = some (.lst ([t0 * (L2 / u0), t1 * (L2 / u1), t2 * (L2 / u2)].map V.int)) := hlD
    walk_at "zz"
    refine u_mkP hlD' (Nat.le_of_ble_eq_true rfl) (by omega) (m3.up (by omega)) (fun z H3 ls o s3 hz lw => ?_)
    have key : ∀ {t u : Int} {v : Rat}, u ∣ L2 → (t : Rat) = v * u → ((t * (L2 / u) : Int) : Rat) = v * L2 := fun {t u v} d e => by
      have q : ((L2 / u : Int) : Rat) * (u : Rat) = (L2 : Rat) := by rw [← Rat.intCast_mul, Int.ediv_mul_cancel d]
      rw [Rat.intCast_mul, e, ← q]
      grind
    refine k z H3 (sD.trans s3) (QP.of hz lw m0 (Nat.le_of_ble_eq_true rfl) (m3.up (by omega)) (fun k => ?_) (key d0 e0) (key d1 e1) (key m2 e2))
    match k with
    | 0 => exact Bits.up (bt0.mul m3.div) (by omega)
    | 1 => exact Bits.up (bt1.mul m3.div) (by omega)
    | 2 => exact Bits.up (bt2.mul m3.div) (by omega)
    | k + 3 =>
      rw [S31.cf_out (by show 3 ≤ k + 3; omega)]
      exact Bits.zero
theorem c_quadratic_of (L : Lw K mg) : Cal P w K mg base 6 "quadratic_of" (sp1 (fs_quad K)) [] := by
  obtain ⟨fd, F⟩ := L.d_quadratic_of
  exact ⟨⟨_, fd, ["numbers"], [], ok_quadratic_of L F, L.g_quadratic_of, F.kp, F.bindsN (fun _ _ _ _ _ _ us hl => match us, hl with | [_], _ => rfl), .nil⟩⟩
theorem ok_whole_three (L : Lw K mg) {fd : FuncData} (F : FunD K "whole_three" "whole_three" (defArgs s_whole_three) (defBody s_whole_three) (defScope s_whole_three) (df_whole_three.dvs K) (df_whole_three.kws K) (He.fAd K ("whole_three", none)) fd) : FnOk P w K mg base (L2N.CX P w) 1 (He.fAd K ("whole_three", none)) fd (["q"] : List Str) (sp1 (fs_w3 K)) := by
  refine FunD.ok F sc_whole_three len1 (fun cdv A outer s H vs Q E hr h => ?_)
  obtain ⟨a, rfl, h⟩ := h
  refine ⟨_, (pss_one (ps_ret (pe_slice (slK rSlL (K := K) rfl sl_list) (pe_op o_cat (pe_callTy (callK rList1 (K := K) rfl o_list1) (by rfl) L.f_list (by decide +kernel) (pa_cons (pe_fld (pv 0) rfl) pa_nil)) (pe_lst (pa_cons pe_int (pa_cons pe_int (pa_cons pe_int pa_nil))))) po_none (po_some pe_int)))), ?_⟩
  obtain ⟨p, a, b, c, N, rfl, ⟨ls, o, ⟨dx, tu, hp, htu⟩, hl, o0, bo, bl, ht, ea, eb, ec, hcop⟩, k⟩ := h
  walk_at "zz"
  refine z_listT htu (fun q H1 hq s1 e1 => ?_)
  walk_at "zz"
  refine z_sll (by assumption) (fun q2 H2 hq2 s2 e2 => ?_)
  rw [take3 hl] at e2
  exact k q2 H2 _ _ _ o (by walk_at "sm") e2 o0 (bl 0) (bl 1) (bl 2) ea eb ec
theorem c_whole_three (L : Lw K mg) : Cal P w K mg base 1 "whole_three" (sp1 (fs_w3 K)) [] := by
  obtain ⟨fd, F⟩ := L.d_whole_three
  exact ⟨⟨_, fd, ["q"], [], ok_whole_three L F, L.g_whole_three, F.kp, F.bindsN (fun _ _ _ _ _ _ us hl => match us, hl with | [_], _ => rfl), .nil⟩⟩
theorem ok_first_below (L : Lw K mg) {fd : FuncData} (F : FunD K "first_below" "first_below" (defArgs s_first_below) (defBody s_first_below) (defScope s_first_below) (df_first_below.dvs K) (df_first_below.kws K) (He.fAd K ("first_below", none)) fd) : FnOk P w K mg base (L2N.CX P w) 2 (He.fAd K ("first_below", none)) fd (["q", "letters"] : List Str) (sp2 (fs_fb K)) := by
  refine FunD.ok F sc_first_below len2 (fun cdv A outer s H vs Q E hr h => ?_)
  obtain ⟨a, b, rfl, h⟩ := h
  refine ⟨_, (pss_cons (ps_asg (pe_c (c_whole_three (K := K) L) hr (by decide) (L2N.takes_of rfl rfl rfl rfl) (pa_cons (pv 0) pa_nil)) (pg_lst (by rfl) (pgs_cons (pg_name (i := 2) sc_first_below.nd rfl (by first | exact Or.inl rfl | exact Or.inr rfl)) (pgs_cons (pg_name (i := 3) sc_first_below.nd rfl (by first | exact Or.inl rfl | exact Or.inr rfl)) (pgs_cons (pg_name (i := 4) sc_first_below.nd rfl (by first | exact Or.inl rfl | exact Or.inr rfl)) pgs_nil)))))
    (pss_cons (ps_for (passes_of rfl) rfl (pi_range2 (by rfl) L.f_range (pa_cons pe_int (pa_cons (pe_op o_cat (pv 1) pe_int) pa_nil))) (pg_name (i := 5) sc_first_below.nd rfl (by first | exact Or.inl rfl | exact Or.inr rfl)) (pss_one (ps_if (pt_cmpR o_lt (pe_op o_cat (pv 2) (pe_op o_rep (pv 5) (pe_op o_cat (pv 3) (pe_op o_rep (pv 5) (pv 4))))) pe_int (nomark _)) (pss_one (ps_ret (pv 5))) pss_nil)))
    (pss_one (ps_ret pe_non)))), ?_⟩
  obtain ⟨p, a, b, c, N, n, rfl, rfl, hq, n1, n2, k1, k2⟩ := h
  walk_at "zz"
  refine u_w3 hq (fun l H1 A B C o s1 hl o0 bA bB bC ea eb ec => ?_)
  walk_at "zz"
  refine z_rg ⟨by omega, fun x σ' H' => ∃ v5 : Option V, σ' = [some (.ref p), some (.int n), some (.int A), some (.int B), some (.int C), v5] ∧ H' = H1 ∧ ∀ j, 1 ≤ j → j < x → ¬ S66.qv A B C j < 0, ⟨_, rfl, rfl, fun j h1 h2 => by omega⟩, ?_, ?_⟩
  · rintro x σ' H' x1 x2 ⟨v5, rfl, rfl, hj⟩
    walk_at "zz"
    refine z_d2 (fun cc => ?_) (fun cc => ?_)
    · walk_at "zz"
      exact k1 x _ s1 x1 (by omega) ((qv_neg o0 ea eb ec x).mp cc)
    · walk_at "zz"
      refine ⟨_, rfl, rfl, fun j h1 h2 => ?_⟩
      by_cases e : j = x
      · rw [e]
        exact cc
      · exact hj j h1 (by omega)
  · rintro x σ' H' x1 x2 x3 ⟨v5, rfl, rfl, hj⟩
    have ex := x3 (by omega)
    walk_at "zz"
    refine k2 _ s1 (fun k h1 h2 => ?_)
    have := mt (qv_neg o0 ea eb ec k).mpr (hj k h1 (by omega))
    exact Rat.not_lt.mp this
theorem c_first_below (L : Lw K mg) : Cal P w K mg base 2 "first_below" (sp2 (fs_fb K)) [] := by
  obtain ⟨fd, F⟩ := L.d_first_below
  exact ⟨⟨_, fd, ["q", "letters"], [], ok_first_below L F, L.g_first_below, F.kp, F.bindsN (fun _ _ _ _ _ _ us hl => match us, hl with | [_, _], _ => rfl), .nil⟩⟩
theorem ok_block_poly (L : Lw K mg) {fd : FuncData} (F : FunD K "block_poly" "block_poly" (defArgs s_block_poly) (defBody s_block_poly) (defScope s_block_poly) (df_block_poly.dvs K) (df_block_poly.kws K) (He.fAd K ("block_poly", none)) fd) : FnOk P w K mg base (L2N.CX P w) 6 (He.fAd K ("block_poly", none)) fd (["block", "letters"] : List Str) (sp2 (fs_bp K)) := by
  refine FunD.ok F sc_block_poly len2 (fun cdv A outer s H vs Q E hr h => ?_)
  obtain ⟨a, b, rfl, h⟩ := h
  refine ⟨_, (pss_cons (ps_if (pt_cmpR op_eq (pv 0) pe_int (nomark _)) (pss_one (ps_ret (pe_mk (c1_PolyD_initD (K := K) L) hr (by decide) (L2N.takes_of rfl rfl rfl rfl) (pa_cons (pe_lst (pa_cons (pe_un o_neg (pv 1)) (pa_cons (pe_op o_cat (pv 1) pe_int) (pa_cons (pe_un o_neg pe_int) pa_nil)))) pa_nil)))) pss_nil)
    (pss_one (ps_ret (pe_mk (c1_PolyD_initD (K := K) L) hr (by decide) (L2N.takes_of rfl rfl rfl rfl) (pa_cons (pe_lst (pa_cons (pe_op o_rep (pv 0) (pe_op o_cat (pv 0) pe_int)) (pa_cons (pe_op o_sub (pe_op o_rep (pe_un o_neg pe_int) (pv 0)) pe_int) (pa_cons pe_int pa_nil)))) pa_nil))))), ?_⟩
  obtain ⟨k, n, rfl, rfl, k0, k1, n0, n1, q⟩ := h
  walk_at "zz"
  refine z_d2 (fun cc => ?_) (fun cc => ?_)
  · walk_at "zz"
    refine u_mkP1 (ns := [-n, n + 1, -1]) (by assumption) (Nat.le_of_ble_eq_true rfl) (fun x H2 ls o hx s2 hq lw => ?_)
    refine q x H2 (by walk_at "sm") (fun _ => QP.of hq lw (by decide) (Nat.le_of_ble_eq_true rfl) (Bits.small (n := 18) (by decide) (by decide)) (fun k => ?_) ?_ ?_ ?_) (fun z => absurd cc z)
    · match k with
      | 0 => exact Bits.small (n := 18) (by show -(262144 : Int) < -n; omega) (by show -n < (262144 : Int); omega)
      | 1 => exact Bits.small (n := 18) (by show -(262144 : Int) < n + 1; omega) (by show n + 1 < (262144 : Int); omega)
      | 2 => exact Bits.small (n := 18) (by show -(262144 : Int) < -1; omega) (by show -1 < (262144 : Int); omega)
      | k + 3 =>
        rw [S31.cf_out (by show 3 ≤ k + 3; omega)]
        exact Bits.zero
    · show ((-n : Int) : Rat) = -(n : Rat) * ((1 : Int) : Rat)
      rw [Rat.intCast_neg, show ((1 : Int) : Rat) = 1 from rfl, Rat.mul_one]
    · show ((n + 1 : Int) : Rat) = ((n : Rat) + 1) * ((1 : Int) : Rat)
      rw [Rat.intCast_add, show ((1 : Int) : Rat) = 1 from rfl, Rat.mul_one]
    · show ((-1 : Int) : Rat) = -1 * ((1 : Int) : Rat)
      rw [show ((1 : Int) : Rat) = 1 from rfl, Rat.mul_one] <;> rfl
  · walk_at "zz"
    have kk : k * (k + 1) ≤ 200 * 201 := Int.mul_le_mul k1 (by omega) (by omega) (by omega)
    have kk0 : 0 ≤ k * (k + 1) := Int.mul_nonneg k0 (by omega)
    refine u_mkP1 (ns := [k * (k + 1), -2 * k - 1, 1]) (by assumption) (Nat.le_of_ble_eq_true rfl) (fun x H2 ls o hx s2 hq lw => ?_)
    refine q x H2 (by walk_at "sm") (fun z => absurd z cc) (fun _ => QP.of hq lw (by decide) (Nat.le_of_ble_eq_true rfl) (Bits.small (n := 18) (by decide) (by decide)) (fun j => ?_) ?_ ?_ ?_)
    · match j with
      | 0 => exact Bits.small (n := 18) (by show -(262144 : Int) < k * (k + 1); omega) (by show k * (k + 1) < (262144 : Int); omega)
      | 1 => exact Bits.small (n := 18) (by show -(262144 : Int) < -2 * k - 1; omega) (by show -2 * k - 1 < (262144 : Int); omega)
      | 2 => exact Bits.small (n := 18) (by show -(262144 : Int) < 1; omega) (by show 1 < (262144 : Int); omega)
      | j + 3 =>
        rw [S31.cf_out (by show 3 ≤ j + 3; omega)]
        exact Bits.zero
    · show ((k * (k + 1) : Int) : Rat) = (k : Rat) * ((k : Rat) + 1) * ((1 : Int) : Rat)
      rw [Rat.intCast_mul, Rat.intCast_add, show ((1 : Int) : Rat) = 1 from rfl, Rat.mul_one]
    · show ((-2 * k - 1 : Int) : Rat) = (-2 * (k : Rat) - 1) * ((1 : Int) : Rat)
      rw [Rat.intCast_sub, Rat.intCast_mul, show ((1 : Int) : Rat) = 1 from rfl, show ((-2 : Int) : Rat) = -2 from rfl, Rat.mul_one]
    · show ((1 : Int) : Rat) = 1 * ((1 : Int) : Rat)
      rw [Rat.one_mul]
theorem c_block_poly (L : Lw K mg) : Cal P w K mg base 6 "block_poly" (sp2 (fs_bp K)) [] := by
  obtain ⟨fd, F⟩ := L.d_block_poly
  exact ⟨⟨_, fd, ["block", "letters"], [], ok_block_poly L F, L.g_block_poly, F.kp, F.bindsN (fun _ _ _ _ _ _ us hl => match us, hl with | [_, _], _ => rfl), .nil⟩⟩
end
end T
set_option maxHeartbeats 4000000
namespace T
open PySem PySem.Spec PyProof.Rows L2 Z
open S31 (cf)
open S30
theorem z_oaI {r : R2} {i j : Int} {H : Hp} {Q : VK} (q : Q (.int (i + j)) H) : rOr zCat r (.int i) (.int j) H Q := .inl (z_catI q)
theorem z_osI {r : R2} {i j : Int} {H : Hp} {Q : VK} (q : Q (.int (i - j)) H) : rOr zSub r (.int i) (.int j) H Q := .inl (z_sub q)
theorem small9 {n : Int} (h1 : -512 < n) (h2 : n < 512) : Bits 9 n := Bits.small (n := 9) (by show -(512 : Int) < n; exact h1) (by show n < (512 : Int); exact h2)
theorem u_sgn {K : Frag} {H : Hp} {Q : VK} {E : XK} {p : Addr} {v : Rat} {B : Nat} (h : IsV K H p v B) (q : Q (.int (cmpQ v 0)) H) : sp1 (fs_sgn2 K) [.ref p] H Q E := ⟨_, rfl, .inl ⟨p, v, B, rfl, h, q⟩⟩
local macro_rules | `(tactic| walk_at "up") => `(tactic| first
  | assumption
  | (refine' IsR.mono (by assumption) ?zup; case zup => walk_at "up")
  | (refine' IsE.mono (by assumption) ?zup; case zup => walk_at "up")
  | (refine' Same.at (by assumption) ?zup; case zup => walk_at "up")
  | (refine' SqL.of ?zup; case zup => walk_at "up")
  | (refine' L2.Same.seq (by assumption) ?zup; case zup => walk_at "up"))
local macro_rules | `(tactic| walk_at "z") => `(tactic| first
  | ((with_reducible refine' z_var ?zvh ?_); (case zvh => exact rfl))
  | with_reducible refine z_c ?_
  | with_reducible refine z_cons ?_
  | with_reducible refine z_nil ?_
  | with_reducible refine z_op ?_
  | with_reducible refine z_nx ?_
  | with_reducible refine z_seq ?_
  | with_reducible refine z_asg ?_
  | with_reducible refine z_asgG ?_
  | with_reducible refine z_call ?_
  | with_reducible refine z_sq0 ?_
  | with_reducible refine z_sq1 ?_
  | with_reducible refine z_ifS ?_
  | with_reducible refine z_test ?_
  | with_reducible refine z_tb ?_
  | with_reducible refine z_bl ?_
  | with_reducible refine z_blI ?_
  | with_reducible refine z_ret ?_
  | with_reducible refine z_rt ?_
  | with_reducible refine z_T ?_
  | with_reducible refine z_F ?_
  | with_reducible refine z_add ?_
  | with_reducible refine z_sub ?_
  | with_reducible refine z_neg ?_
  | with_reducible refine z_un ?_
  | with_reducible refine z_eqI ?_
  | with_reducible refine z_neI ?_
  | with_reducible refine z_lt ?_
  | with_reducible refine z_le ?_
  | with_reducible refine z_gt ?_
  | with_reducible refine z_ge ?_
  | with_reducible refine z_not ?_
  | with_reducible refine z_and ?_
  | with_reducible refine z_or ?_
  | with_reducible refine z_andV ?_
  | with_reducible refine z_orV ?_
  | with_reducible refine z_notV ?_
  | with_reducible refine z_if ?_
  | with_reducible refine z_cb ?_
  | with_reducible refine z_int1 ?_
  | with_reducible refine z_intb ?_
  | with_reducible refine z_abs ?_
  | with_reducible refine z_gcd ?_
  | with_reducible refine z_isi_ii ?_
  | with_reducible refine z_isi_ib ?_
  | with_reducible refine z_next ?_
  | with_reducible refine z_drop ?_
  | with_reducible refine z_par ?_
  | with_reducible refine z_par2 ?_
  | with_reducible refine z_tupN ?_
  | with_reducible refine z_lstN ?_
  | ((with_reducible refine' z_nt ?zl1 ?_); (case zl1 => exact Nat.le_of_ble_eq_true rfl); intro p H' hp hs he)
  | ((with_reducible refine' z_gtup ?zl1 ?zl2 ?_); (case zl1 => walk_at "up"); (case zl2 => exact rfl))
  | with_reducible refine z_bk ?_
  | with_reducible refine z_ct ?_
  | with_reducible refine z_break ?_
  | with_reducible refine z_cont ?_
  | with_reducible refine z_retN ?_
  | with_reducible refine z_nn ?_
  | with_reducible refine z_mk ?_
  | with_reducible refine z_gn ?_
  | with_reducible refine z_gcons ?_
  | with_reducible refine z_gnil ?_
  | with_reducible refine z_mt ?_
  | with_reducible refine z_mko ?_
  | with_reducible refine z_for2 ?_
  | with_reducible refine z_ownI ?_
  | ((with_reducible refine' z_lenL ?zl1 ?_); (case zl1 => walk_at "up"))
  | ((with_reducible refine' z_ixT ?zl1 ?zl2 ?_); (case zl1 => walk_at "up"); (case zl2 => exact rfl))
  | ((with_reducible refine' z_mulL ?zl1 ?zl2 ?_); (case zl1 => omega); (case zl2 => omega))
  | ((with_reducible refine' z_mulR ?zl1 ?zl2 ?_); (case zl1 => omega); (case zl2 => omega))
  | ((with_reducible refine' z_divS ?zl1 ?zl2 ?_); (case zl1 => omega); (case zl2 => omega))
  | ((with_reducible refine' z_mulW ?zl1 ?zl2 ?zl3 ?zl4 ?_); (case zl1 => omega); (case zl2 => omega); (case zl3 => omega); (case zl4 => omega))
  | ((with_reducible refine' z_divW ?zl1 ?zl2 ?_); (case zl1 => omega); (case zl2 => omega)))
local macro_rules | `(tactic| walk_at "zz") => `(tactic| repeat (walk_at "z"))
local macro_rules | `(tactic| walk_at "z") => `(tactic| with_reducible refine z_lstN ?_)
local macro_rules | `(tactic| walk_at "z") => `(tactic| with_reducible refine z_p6 ?_)
local macro_rules | `(tactic| walk_at "z") => `(tactic| with_reducible refine z_p12 ?_)
local macro_rules | `(tactic| walk_at "z") => `(tactic| with_reducible refine z_p13 ?_)
local macro_rules | `(tactic| walk_at "z") => `(tactic| with_reducible refine z_calln ?_)
local macro_rules | `(tactic| walk_at "z") => `(tactic| with_reducible refine z_xfS ?_)
local macro_rules | `(tactic| walk_at "z") => `(tactic| with_reducible refine z_lcS ?_)
local macro_rules | `(tactic| walk_at "z") => `(tactic| with_reducible refine z_lcRS ?_)
local macro_rules | `(tactic| walk_at "z") => `(tactic| with_reducible refine z_lcZS ?_)
local macro_rules | `(tactic| walk_at "z") => `(tactic| with_reducible refine z_foS ?_)
local macro_rules | `(tactic| walk_at "z") => `(tactic| with_reducible refine z_for1 ?_)
local macro_rules | `(tactic| walk_at "z") => `(tactic| with_reducible refine z_tsl ?_)
local macro_rules | `(tactic| walk_at "z") => `(tactic| with_reducible refine z_np ?_)
local macro_rules | `(tactic| walk_at "z") => `(tactic| with_reducible refine z_pt ?_)
local macro_rules | `(tactic| walk_at "z") => `(tactic| with_reducible refine z_pti ?_)
local macro_rules | `(tactic| walk_at "z") => `(tactic| with_reducible refine z_catI ?_)
local macro_rules | `(tactic| walk_at "z") => `(tactic| with_reducible refine z_isNI ?_)
local macro_rules | `(tactic| walk_at "z") => `(tactic| with_reducible refine z_isNN ?_)
local macro_rules | `(tactic| walk_at "z") => `(tactic| with_reducible refine z_notNI ?_)
local macro_rules | `(tactic| walk_at "z") => `(tactic| with_reducible refine z_notNN ?_)
local macro_rules | `(tactic| walk_at "z") => `(tactic| with_reducible refine z_gsub ?_)
local macro_rules | `(tactic| walk_at "z") => `(tactic| with_reducible refine z_isNb ?_)
local macro_rules | `(tactic| walk_at "z") => `(tactic| with_reducible refine z_notNb ?_)
local macro_rules | `(tactic| walk_at "z") => `(tactic| ((with_reducible refine' z_nlR ?zl1 ?_); (case zl1 => exact Nat.le_of_ble_eq_true rfl); intro p H' hp hs he))
local macro_rules | `(tactic| walk_at "z") => `(tactic| ((with_reducible refine' z_repR ?zl1 ?zl2 ?_); (case zl1 => omega); (case zl2 => omega)))
local macro_rules | `(tactic| walk_at "z") => `(tactic| ((with_reducible refine' z_repL ?zl1 ?zl2 ?_); (case zl1 => omega); (case zl2 => omega)))
local macro_rules | `(tactic| walk_at "z") => `(tactic| ((with_reducible refine' z_lenLst ?zl1 ?_); (case zl1 => walk_at "up")))
local macro_rules | `(tactic| walk_at "z") => `(tactic| ((with_reducible refine' z_cat ?zl1 ?zl2 ?zl3 ?_); (case zl1 => walk_at "up"); (case zl2 => walk_at "up"); (case zl3 => (simp only [List.length_map, List.length_cons, List.length_nil, List.length_append, List.length_replicate]; omega)); intro p H' hp hs he))
local macro_rules | `(tactic| walk_at "z") => `(tactic| with_reducible refine z_sfl ?_)
local macro_rules | `(tactic| walk_at "z") => `(tactic| with_reducible refine z_lcES ?_)
local macro_rules | `(tactic| walk_at "z") => `(tactic| with_reducible refine z_lcMS ?_)
local macro_rules | `(tactic| walk_at "z") => `(tactic| with_reducible refine z_foES ?_)
local macro_rules | `(tactic| walk_at "z") => `(tactic| with_reducible refine z_fo3S ?_)
local macro_rules | `(tactic| walk_at "z") => `(tactic| with_reducible refine z_sta ?_)
local macro_rules | `(tactic| walk_at "z") => `(tactic| with_reducible refine z_sta1 ?_)
local macro_rules | `(tactic| walk_at "z") => `(tactic| with_reducible refine z_lcTS ?_)
local macro_rules | `(tactic| walk_at "z") => `(tactic| with_reducible refine z_foTS ?_)
local macro_rules | `(tactic| walk_at "z") => `(tactic| with_reducible refine z_revTS ?_)
local macro_rules | `(tactic| walk_at "z") => `(tactic| with_reducible refine z_max2 ?_)
local macro_rules | `(tactic| walk_at "z") => `(tactic| with_reducible refine z_fldS ?_)
local macro_rules | `(tactic| walk_at "z") => `(tactic| ((with_reducible refine' z_fdt ?zc1 ?zc2 ?zl2 ?_); (case zc1 => exact Lw.cl_Ratio (by assumption)); (case zc2 => exact Lw.na_Ratio_top (by assumption)); (case zl2 => walk_at "up")))
local macro_rules | `(tactic| walk_at "z") => `(tactic| ((with_reducible refine' z_fdb ?zc1 ?zc2 ?zl2 ?_); (case zc1 => exact Lw.cl_Ratio (by assumption)); (case zc2 => exact Lw.na_Ratio_bottom (by assumption)); (case zl2 => walk_at "up")))
local macro_rules | `(tactic| walk_at "z") => `(tactic| ((with_reducible refine' z_fldt ?zc1 ?zc2 ?zl1 ?zl2 ?_); (case zc1 => exact Lw.cl_Ratio (by assumption)); (case zc2 => exact Lw.na_Ratio_top (by assumption)); (case zl1 => exact rfl); (case zl2 => walk_at "up")))
local macro_rules | `(tactic| walk_at "z") => `(tactic| ((with_reducible refine' z_fldb ?zc1 ?zc2 ?zl1 ?zl2 ?_); (case zc1 => exact Lw.cl_Ratio (by assumption)); (case zc2 => exact Lw.na_Ratio_bottom (by assumption)); (case zl1 => exact rfl); (case zl2 => walk_at "up")))
local macro_rules | `(tactic| walk_at "z") => `(tactic| ((with_reducible refine' z_fldG ?zc1 ?zc2 ?zl0 ?zl1 ?zl2 ?_); (case zc1 => exact Lw.cl_Poly (by assumption)); (case zc2 => exact Lw.na_Poly_numbers (by assumption)); (case zl0 => exact rfl); (case zl1 => walk_at "up"); (case zl2 => exact lkA)))
local macro_rules | `(tactic| walk_at "z") => `(tactic| ((with_reducible refine' z_fldG ?zc1 ?zc2 ?zl0 ?zl1 ?zl2 ?_); (case zc1 => exact Lw.cl_Poly (by assumption)); (case zc2 => exact Lw.na_Poly_over (by assumption)); (case zl0 => exact rfl); (case zl1 => walk_at "up"); (case zl2 => exact lkO)))
local macro_rules | `(tactic| walk_at "z") => `(tactic| ((with_reducible refine' z_fldG ?zc1 ?zc2 ?zl0 ?zl1 ?zl2 ?_); (case zc1 => exact Lw.cl_Poly (by assumption)); (case zc2 => exact Lw.na_Poly_degree (by assumption)); (case zl0 => exact rfl); (case zl1 => walk_at "up"); (case zl2 => exact lkD)))
local macro_rules | `(tactic| walk_at "z") => `(tactic| ((with_reducible refine' z_glst ?zl1 ?zl2 ?_); (case zl1 => walk_at "up"); (case zl2 => exact rfl)))
local macro_rules | `(tactic| walk_at "z") => `(tactic| ((with_reducible refine' z_ixLst ?zl1 ?zl2 ?_); (case zl1 => walk_at "up"); (case zl2 => exact rfl)))
local macro_rules | `(tactic| walk_at "z") => `(tactic| ((with_reducible refine' u_mtV ?zl1 ?_); (case zl1 => walk_at "up")))
local macro_rules | `(tactic| walk_at "z") => `(tactic| ((with_reducible refine' u_mtQP ?zl1 ?_); (case zl1 => walk_at "up")))
local macro_rules | `(tactic| walk_at "z") => `(tactic| ((with_reducible refine' z_fldG ?zc1 ?zc2 ?zl0 ?zl1 ?zl2 ?_); (case zc1 => exact Lw.cl_SixClaim (by assumption)); (case zc2 => exact Lw.na_SixClaim_letters (by assumption)); (case zl0 => exact rfl); (case zl1 => walk_at "up"); (case zl2 => exact lkA)))
local macro_rules | `(tactic| walk_at "z") => `(tactic| ((with_reducible refine' z_fldG ?zc1 ?zc2 ?zl0 ?zl1 ?zl2 ?_); (case zc1 => exact Lw.cl_SixClaim (by assumption)); (case zc2 => exact Lw.na_SixClaim_numbers (by assumption)); (case zl0 => exact rfl); (case zl1 => walk_at "up"); (case zl2 => exact (lkB (by decide +kernel) lkA))))
local macro_rules | `(tactic| walk_at "z") => `(tactic| with_reducible refine z_oaI ?_)
local macro_rules | `(tactic| walk_at "z") => `(tactic| with_reducible refine z_osI ?_)
theorem same66h {H H1 H2 : Hp} (h : Same H1 H2) (e : Same H H1) : Same H H2 := e.trans h
local macro_rules | `(tactic| walk_at "sm") => `(tactic| first
  | assumption
  | exact fun _ _ h => h
  | (refine' same66h (by assumption) ?zsm; case zsm => walk_at "sm"))
local macro_rules | `(tactic| walk_at "up") => `(tactic| first
  | assumption
  | (with_reducible refine' IsR.mono (by assumption) ?zup; case zup => walk_at "up")
  | (with_reducible refine' IsV.mono (by assumption) ?zup; case zup => walk_at "up")
  | (with_reducible refine' IsQ.mono (by assumption) ?zup; case zup => walk_at "up")
  | (with_reducible refine' QP.mono (by assumption) ?zup; case zup => walk_at "up")
  | (with_reducible refine' R3.mono (by assumption) ?zup; case zup => walk_at "up")
  | (with_reducible refine' Same.at (by assumption) ?zup; case zup => walk_at "up")
  | (with_reducible refine' IsSC.mono (by assumption) ?zup; case zup => walk_at "up")
  | fail)
section
variable {P : Program} {w : World} {K : Frag} {mg : Str → Option Value} {base : Heap}
theorem ok_SixClaimD_initD (L : Lw K mg) {fd : FuncData} (F : FunD K "__init__" "SixClaim.__init__" (defArgs s_SixClaimD_initD) (defBody s_SixClaimD_initD) (defScope s_SixClaimD_initD) (df_SixClaimD_initD.dvs K) (df_SixClaimD_initD.kws K) (He.fAd K ("SixClaim", some "__init__")) fd) : FnOk P w K mg base (L2N.CX P w) 4 (He.fAd K ("SixClaim", some "__init__")) fd (["self", "letters", "numbers"] : List Str) (sp3 (fs_scinit K)) := by
  refine FunD.ok F sc_SixClaimD_initD len3 (fun cdv A outer s H vs Q E hr h => ?_)
  obtain ⟨a, b, c, rfl, h⟩ := h
  refine ⟨_, (pss_cons (ps_expr (pe_c (c_check_number (K := K) L) hr (by decide) (L2N.takes_of rfl rfl rfl rfl) (pa_cons (pv 1) (pa_cons pe_int (pa_cons pe_int pa_nil)))))
    (pss_cons (ps_expr (pe_c (c_check_size (K := K) L) hr (by decide) (L2N.takes_of rfl rfl rfl rfl) (pa_cons (pv 2) (pa_cons pe_int (pa_cons pe_int pa_nil)))))
    (pss_cons (ps_fld (pv 0) (pv 1) rfl)
    (pss_one (ps_fld (pv 0) (pe_callTy (callK rTup1 (K := K) rfl call_tuple_of) (by rfl) L.f_tuple (by decide +kernel) (pa_cons (pv 2) pa_nil)) rfl))))), ?_⟩
  obtain ⟨x, dx, s, H0, n, xs, rfl, rfl, rfl, rfl, hx, hdx, ne, hs, h3, n0, n1, k⟩ := h
  have sm : Same H0 (upd (upd H0 dx (.own x)) x (.ins (He.ga K "SixClaim") dx [])) := (Same.put (Same.new hdx) hx)
  have hxx : upd (upd H0 dx (.own x)) x (.ins (He.ga K "SixClaim") dx []) x = some (.ins (He.ga K "SixClaim") dx []) := upd_same
  have hs2 := sm _ _ hs
  generalize upd (upd H0 dx (.own x)) x (.ins (He.ga K "SixClaim") dx []) = H at *
  walk_at "zz"
  refine ⟨_, _, _, rfl, n, 2, rfl, rfl, .inr ⟨200, rfl⟩, fun _ => ?_, fun z => absurd ⟨n0, fun h e => by cases e; exact n1⟩ z⟩
  walk_at "zz"
  refine ⟨_, _, _, rfl, s, xs, 3, 3, rfl, rfl, rfl, .inl hs2, fun _ => ?_, fun z => absurd ⟨by omega, by omega⟩ z⟩
  walk_at "zz"
  refine z_sflp L.cl_SixClaim L.na_SixClaim_letters rfl hxx (by show 0 < 1000; decide) ?_
  rw [pfN]
  have e2 : (upd H x (.ins (He.ga K "SixClaim") dx [("letters", .int n)])) x = some (.ins (He.ga K "SixClaim") dx [("letters", .int n)]) := upd_same
  have s2 : Same H0 (upd H x (.ins (He.ga K "SixClaim") dx [("letters", .int n)])) := Same.put sm hx
  generalize (upd H x (.ins (He.ga K "SixClaim") dx [("letters", .int n)])) = H2 at *
  have hs3 := s2 _ _ hs
  walk_at "zz"
  refine z_tup1L hs3 (fun t H3 ht s3 et => ?_)
  walk_at "zz"
  refine z_sflp L.cl_SixClaim L.na_SixClaim_numbers rfl (s3 _ _ e2) (by show 1 < 1000; decide) ?_
  rw [pfB (by decide +kernel), pfN]
  walk_at "zz"
  refine k _ t (Same.put (s2.trans s3) hx) upd_same ?_
  rw [upd_ne (fun e => by rw [e, s3 _ _ e2] at et; cases et)]
  exact et
theorem c_SixClaimD_initD (L : Lw K mg) : Mak P w K mg base 4 "SixClaim" (He.ga K "SixClaim") (sp3 (fs_scinit K)) [] := by
  obtain ⟨fd, F⟩ := L.d_SixClaimD_initD
  exact ⟨⟨_, fd, ["self", "letters", "numbers"], [], L.mk_SixClaim, ok_SixClaimD_initD L F, L.g_SixClaim, F.bindsN (fun _ _ _ _ _ _ us hl => match us, hl with | [_, _, _], _ => rfl), .nil⟩⟩
theorem ok_SixPaperD_initD (L : Lw K mg) {fd : FuncData} (F : FunD K "__init__" "SixPaper.__init__" (defArgs s_SixPaperD_initD) (defBody s_SixPaperD_initD) (defScope s_SixPaperD_initD) (df_SixPaperD_initD.dvs K) (df_SixPaperD_initD.kws K) (He.fAd K ("SixPaper", some "__init__")) fd) : FnOk P w K mg base (L2N.CX P w) 4 (He.fAd K ("SixPaper", some "__init__")) fd (["self", "block", "amount", "rest"] : List Str) (sp4 (fs_spinit K)) := by
  refine FunD.ok F sc_SixPaperD_initD len4 (fun cdv A outer s H vs Q E hr h => ?_)
  obtain ⟨a, b, c, d, rfl, h⟩ := h
  refine ⟨_, (pss_cons (ps_expr (pe_c (c_check_number (K := K) L) hr (by decide) (L2N.takes_of rfl rfl rfl rfl) (pa_cons (pv 1) (pa_cons pe_int (pa_cons pe_int pa_nil)))))
    (pss_cons (ps_fld (pv 0) (pv 1) rfl)
    (pss_cons (ps_fld (pv 0) (pv 2) rfl)
    (pss_one (ps_fld (pv 0) (pv 3) rfl))))), ?_⟩
  obtain ⟨x, dx, H0, n, rfl, rfl, rfl, hx, hdx, ne, n0, n1, k⟩ := h
  have sm : Same H0 (upd (upd H0 dx (.own x)) x (.ins (He.ga K "SixPaper") dx [])) := (Same.put (Same.new hdx) hx)
  have hxx : upd (upd H0 dx (.own x)) x (.ins (He.ga K "SixPaper") dx []) x = some (.ins (He.ga K "SixPaper") dx []) := upd_same
  generalize upd (upd H0 dx (.own x)) x (.ins (He.ga K "SixPaper") dx []) = H at *
  walk_at "zz"
  refine ⟨_, _, _, rfl, n, 0, rfl, rfl, .inr ⟨200, rfl⟩, fun _ => ?_, fun z => absurd ⟨n0, fun h e => by cases e; exact n1⟩ z⟩
  walk_at "zz"
  refine z_sflp L.cl_SixPaper L.na_SixPaper_block rfl hxx (by show 0 < 1000; decide) ?_
  rw [pfN]
  have hxx : (upd H x (.ins (He.ga K "SixPaper") dx [("block", .int n)])) x = some (.ins (He.ga K "SixPaper") dx [("block", .int n)]) := upd_same
  have sm : Same H0 (upd H x (.ins (He.ga K "SixPaper") dx [("block", .int n)])) := Same.put sm hx
  generalize (upd H x (.ins (He.ga K "SixPaper") dx [("block", .int n)])) = H at *
  walk_at "zz"
  refine z_sflp L.cl_SixPaper L.na_SixPaper_amount rfl hxx (by show 1 < 1000; decide) ?_
  rw [pfB (by decide +kernel), pfN]
  have hxx : (upd H x (.ins (He.ga K "SixPaper") dx [("block", .int n), ("amount", c)])) x = some (.ins (He.ga K "SixPaper") dx [("block", .int n), ("amount", c)]) := upd_same
  have sm : Same H0 (upd H x (.ins (He.ga K "SixPaper") dx [("block", .int n), ("amount", c)])) := Same.put sm hx
  generalize (upd H x (.ins (He.ga K "SixPaper") dx [("block", .int n), ("amount", c)])) = H at *
  walk_at "zz"
  refine z_sflp L.cl_SixPaper L.na_SixPaper_rest rfl hxx (by show 2 < 1000; decide) ?_
  rw [pfB (by decide +kernel), pfB (by decide +kernel), pfN]
  walk_at "zz"
  exact k _ (Same.put sm hx) upd_same
theorem c_SixPaperD_initD (L : Lw K mg) : Mak P w K mg base 4 "SixPaper" (He.ga K "SixPaper") (sp4 (fs_spinit K)) [] := by
  obtain ⟨fd, F⟩ := L.d_SixPaperD_initD
  exact ⟨⟨_, fd, ["self", "block", "amount", "rest"], [], L.mk_SixPaper, ok_SixPaperD_initD L F, L.g_SixPaper, F.bindsN (fun _ _ _ _ _ _ us hl => match us, hl with | [_, _, _, _], _ => rfl), .nil⟩⟩
end
end T
set_option maxHeartbeats 4000000
namespace T
open PySem PySem.Spec PyProof.Rows L2 Z
open S31 (cf)
open S30
/-- an instance of a class -/
def Inst (K : Frag) (H : Hp) (z : Addr) (C : Str) : Prop := ∃ dx fs, H z = some (.ins (He.ga K C) dx fs)
theorem Inst.mono {K : Frag} {H H' : Hp} {z : Addr} {C : Str} (e : Same H H') (h : Inst K H z C) : Inst K H' z C := by
  obtain ⟨dx, fs, h⟩ := h
  exact ⟨dx, fs, e _ _ h⟩
/-- q is not below zero at 1 .. n -/
def Hold (a b c : Rat) (n : Int) : Prop := ∀ k : Int, 1 ≤ k → k ≤ n → 0 ≤ S66.rv a b c k
/-- the block polynomial -/
def bA (k n : Int) : Rat := if k = 0 then -(n : Rat) else (k : Rat) * ((k : Rat) + 1)
def bB (k n : Int) : Rat := if k = 0 then (n : Rat) + 1 else -2 * (k : Rat) - 1
def bC (k : Int) : Rat := if k = 0 then -1 else 1
theorem bp_one {K : Frag} {H : Hp} {z : Addr} {k n : Int} (h0 : k = 0 → QP K H z (-(n : Rat)) ((n : Rat) + 1) (-1) 18) (h1 : k ≠ 0 → QP K H z ((k : Rat) * ((k : Rat) + 1)) (-2 * (k : Rat) - 1) 1 18) : QP K H z (bA k n) (bB k n) (bC k) 18 := by
  unfold bA bB bC
  by_cases e : k = 0
  · rw [if_pos e, if_pos e, if_pos e]
    exact h0 e
  · rw [if_neg e, if_neg e, if_neg e]
    exact h1 e
theorem cop_dvd {ls ms : List Int} {o o' : Int} (o0 : 0 < o) (o0' : 0 < o') (c1 : ∀ d : Int, d ∣ o → (∀ k, d ∣ cf ls k) → d ∣ 1) (e : ∀ k, cf ls k * o' = cf ms k * o) : o ∣ o' := by
  have g0 : 0 < Nat.gcd o.natAbs o'.natAbs := Nat.gcd_pos_of_pos_left _ (by omega)
  have cp := Nat.coprime_div_gcd_div_gcd g0
  obtain ⟨u, hu⟩ := Nat.gcd_dvd_left o.natAbs o'.natAbs
  obtain ⟨v, hv⟩ := Nat.gcd_dvd_right o.natAbs o'.natAbs
  generalize Nat.gcd o.natAbs o'.natAbs = g at *
  rw [hu, hv, Nat.mul_div_cancel_left _ g0, Nat.mul_div_cancel_left _ g0] at cp
  have d1 : ((u : Nat) : Int) ∣ 1 := by
    refine c1 _ (Int.natAbs_dvd_natAbs.mp (by rw [Int.natAbs_natCast, hu]; exact ⟨g, Nat.mul_comm _ _⟩)) fun k => Int.natAbs_dvd_natAbs.mp ?_
    rw [Int.natAbs_natCast]
    have q : (cf ls k).natAbs * (g * v) = (cf ms k).natAbs * (g * u) := by
      rw [← hu, ← hv, ← Int.natAbs_mul, ← Int.natAbs_mul, e]
    have q2 : (cf ls k).natAbs * v = (cf ms k).natAbs * u := Nat.eq_of_mul_eq_mul_left g0 (by grind)
    exact Nat.Coprime.dvd_of_dvd_mul_right cp ⟨(cf ms k).natAbs, by rw [q2, Nat.mul_comm]⟩
  have u1 : u = 1 := by
    have := Int.natAbs_dvd_natAbs.mpr d1
    rw [Int.natAbs_natCast] at this
    exact Nat.dvd_one.mp this
  rw [u1, Nat.mul_one] at hu
  exact Int.natAbs_dvd_natAbs.mp ⟨v, by rw [hu]; exact hv⟩
def fs_scq (K : Frag) : F1 := fun x H Q _ => ∃ (s : Addr) (n : Int) (a b c : Rat) (B : Nat), x = .ref s ∧ IsSC K H s n a b c B ∧ 1 ≤ B ∧ B ≤ 1000 ∧ ∀ z H', Same H H' → QP K H' z a b c (B + 330) → Q (.ref z) H'
def fs_hold (K : Frag) : F1 := fun x H Q _ => ∃ (s : Addr) (n : Int) (a b c : Rat) (B : Nat), x = .ref s ∧ IsSC K H s n a b c B ∧ 1 ≤ B ∧ B ≤ 1000 ∧ 1 ≤ n ∧ n ≤ 200 ∧ ∀ r H', Same H H' → (r = true ↔ Hold a b c n) → Q (.bl r) H'
theorem u_mtSC {K : Frag} {H : Hp} {s : Addr} {n : Int} {a b c : Rat} {B : Nat} {m : Str} {R : Prop} (h : IsSC K H s n a b c B) (q : R) (h1 : ¬ m = "letters" := by decide +kernel) (h2 : ¬ m = "numbers" := by decide +kernel) : zMt (He.ga K "SixClaim") m (.ref s) H R := by
  obtain ⟨dx, t, e, _⟩ := h
  exact ⟨s, dx, _, rfl, e, by rw [lookup_put, if_neg h1, lookup_put, if_neg h2]; rfl, q⟩
local macro_rules | `(tactic| walk_at "up") => `(tactic| first
  | assumption
  | (refine' IsR.mono (by assumption) ?zup; case zup => walk_at "up")
  | (refine' IsE.mono (by assumption) ?zup; case zup => walk_at "up")
  | (refine' Same.at (by assumption) ?zup; case zup => walk_at "up")
  | (refine' SqL.of ?zup; case zup => walk_at "up")
  | (refine' L2.Same.seq (by assumption) ?zup; case zup => walk_at "up"))
local macro_rules | `(tactic| walk_at "z") => `(tactic| first
  | ((with_reducible refine' z_var ?zvh ?_); (case zvh => exact rfl))
  | with_reducible refine z_c ?_
  | with_reducible refine z_cons ?_
  | with_reducible refine z_nil ?_
  | with_reducible refine z_op ?_
  | with_reducible refine z_nx ?_
  | with_reducible refine z_seq ?_
  | with_reducible refine z_asg ?_
  | with_reducible refine z_asgG ?_
  | with_reducible refine z_call ?_
  | with_reducible refine z_sq0 ?_
  | with_reducible refine z_sq1 ?_
  | with_reducible refine z_ifS ?_
  | with_reducible refine z_test ?_
  | with_reducible refine z_tb ?_
  | with_reducible refine z_bl ?_
  | with_reducible refine z_blI ?_
  | with_reducible refine z_ret ?_
  | with_reducible refine z_rt ?_
  | with_reducible refine z_T ?_
  | with_reducible refine z_F ?_
  | with_reducible refine z_add ?_
  | with_reducible refine z_sub ?_
  | with_reducible refine z_neg ?_
  | with_reducible refine z_un ?_
  | with_reducible refine z_eqI ?_
  | with_reducible refine z_neI ?_
  | with_reducible refine z_lt ?_
  | with_reducible refine z_le ?_
  | with_reducible refine z_gt ?_
  | with_reducible refine z_ge ?_
  | with_reducible refine z_not ?_
  | with_reducible refine z_and ?_
  | with_reducible refine z_or ?_
  | with_reducible refine z_andV ?_
  | with_reducible refine z_orV ?_
  | with_reducible refine z_notV ?_
  | with_reducible refine z_if ?_
  | with_reducible refine z_cb ?_
  | with_reducible refine z_int1 ?_
  | with_reducible refine z_intb ?_
  | with_reducible refine z_abs ?_
  | with_reducible refine z_gcd ?_
  | with_reducible refine z_isi_ii ?_
  | with_reducible refine z_isi_ib ?_
  | with_reducible refine z_next ?_
  | with_reducible refine z_drop ?_
  | with_reducible refine z_par ?_
  | with_reducible refine z_par2 ?_
  | with_reducible refine z_tupN ?_
  | with_reducible refine z_lstN ?_
  | ((with_reducible refine' z_nt ?zl1 ?_); (case zl1 => exact Nat.le_of_ble_eq_true rfl); intro p H' hp hs he)
  | ((with_reducible refine' z_gtup ?zl1 ?zl2 ?_); (case zl1 => walk_at "up"); (case zl2 => exact rfl))
  | with_reducible refine z_bk ?_
  | with_reducible refine z_ct ?_
  | with_reducible refine z_break ?_
  | with_reducible refine z_cont ?_
  | with_reducible refine z_retN ?_
  | with_reducible refine z_nn ?_
  | with_reducible refine z_mk ?_
  | with_reducible refine z_gn ?_
  | with_reducible refine z_gcons ?_
  | with_reducible refine z_gnil ?_
  | with_reducible refine z_mt ?_
  | with_reducible refine z_mko ?_
  | with_reducible refine z_for2 ?_
  | with_reducible refine z_ownI ?_
  | ((with_reducible refine' z_lenL ?zl1 ?_); (case zl1 => walk_at "up"))
  | ((with_reducible refine' z_ixT ?zl1 ?zl2 ?_); (case zl1 => walk_at "up"); (case zl2 => exact rfl))
  | ((with_reducible refine' z_mulL ?zl1 ?zl2 ?_); (case zl1 => omega); (case zl2 => omega))
  | ((with_reducible refine' z_mulR ?zl1 ?zl2 ?_); (case zl1 => omega); (case zl2 => omega))
  | ((with_reducible refine' z_divS ?zl1 ?zl2 ?_); (case zl1 => omega); (case zl2 => omega))
  | ((with_reducible refine' z_mulW ?zl1 ?zl2 ?zl3 ?zl4 ?_); (case zl1 => omega); (case zl2 => omega); (case zl3 => omega); (case zl4 => omega))
  | ((with_reducible refine' z_divW ?zl1 ?zl2 ?_); (case zl1 => omega); (case zl2 => omega)))
local macro_rules | `(tactic| walk_at "zz") => `(tactic| repeat (walk_at "z"))
local macro_rules | `(tactic| walk_at "z") => `(tactic| with_reducible refine z_lstN ?_)
local macro_rules | `(tactic| walk_at "z") => `(tactic| with_reducible refine z_p6 ?_)
local macro_rules | `(tactic| walk_at "z") => `(tactic| with_reducible refine z_p12 ?_)
local macro_rules | `(tactic| walk_at "z") => `(tactic| with_reducible refine z_p13 ?_)
local macro_rules | `(tactic| walk_at "z") => `(tactic| with_reducible refine z_calln ?_)
local macro_rules | `(tactic| walk_at "z") => `(tactic| with_reducible refine z_xfS ?_)
local macro_rules | `(tactic| walk_at "z") => `(tactic| with_reducible refine z_lcS ?_)
local macro_rules | `(tactic| walk_at "z") => `(tactic| with_reducible refine z_lcRS ?_)
local macro_rules | `(tactic| walk_at "z") => `(tactic| with_reducible refine z_lcZS ?_)
local macro_rules | `(tactic| walk_at "z") => `(tactic| with_reducible refine z_foS ?_)
local macro_rules | `(tactic| walk_at "z") => `(tactic| with_reducible refine z_for1 ?_)
local macro_rules | `(tactic| walk_at "z") => `(tactic| with_reducible refine z_tsl ?_)
local macro_rules | `(tactic| walk_at "z") => `(tactic| with_reducible refine z_np ?_)
local macro_rules | `(tactic| walk_at "z") => `(tactic| with_reducible refine z_pt ?_)
local macro_rules | `(tactic| walk_at "z") => `(tactic| with_reducible refine z_pti ?_)
local macro_rules | `(tactic| walk_at "z") => `(tactic| with_reducible refine z_catI ?_)
local macro_rules | `(tactic| walk_at "z") => `(tactic| with_reducible refine z_isNI ?_)
local macro_rules | `(tactic| walk_at "z") => `(tactic| with_reducible refine z_isNN ?_)
local macro_rules | `(tactic| walk_at "z") => `(tactic| with_reducible refine z_notNI ?_)
local macro_rules | `(tactic| walk_at "z") => `(tactic| with_reducible refine z_notNN ?_)
local macro_rules | `(tactic| walk_at "z") => `(tactic| with_reducible refine z_gsub ?_)
local macro_rules | `(tactic| walk_at "z") => `(tactic| with_reducible refine z_isNb ?_)
local macro_rules | `(tactic| walk_at "z") => `(tactic| with_reducible refine z_notNb ?_)
local macro_rules | `(tactic| walk_at "z") => `(tactic| ((with_reducible refine' z_nlR ?zl1 ?_); (case zl1 => exact Nat.le_of_ble_eq_true rfl); intro p H' hp hs he))
local macro_rules | `(tactic| walk_at "z") => `(tactic| ((with_reducible refine' z_repR ?zl1 ?zl2 ?_); (case zl1 => omega); (case zl2 => omega)))
local macro_rules | `(tactic| walk_at "z") => `(tactic| ((with_reducible refine' z_repL ?zl1 ?zl2 ?_); (case zl1 => omega); (case zl2 => omega)))
local macro_rules | `(tactic| walk_at "z") => `(tactic| ((with_reducible refine' z_lenLst ?zl1 ?_); (case zl1 => walk_at "up")))
local macro_rules | `(tactic| walk_at "z") => `(tactic| ((with_reducible refine' z_cat ?zl1 ?zl2 ?zl3 ?_); (case zl1 => walk_at "up"); (case zl2 => walk_at "up"); (case zl3 => (simp only [List.length_map, List.length_cons, List.length_nil, List.length_append, List.length_replicate]; omega)); intro p H' hp hs he))
local macro_rules | `(tactic| walk_at "z") => `(tactic| with_reducible refine z_sfl ?_)
local macro_rules | `(tactic| walk_at "z") => `(tactic| with_reducible refine z_lcES ?_)
local macro_rules | `(tactic| walk_at "z") => `(tactic| with_reducible refine z_lcMS ?_)
local macro_rules | `(tactic| walk_at "z") => `(tactic| with_reducible refine z_foES ?_)
local macro_rules | `(tactic| walk_at "z") => `(tactic| with_reducible refine z_fo3S ?_)
local macro_rules | `(tactic| walk_at "z") => `(tactic| with_reducible refine z_sta ?_)
local macro_rules | `(tactic| walk_at "z") => `(tactic| with_reducible refine z_sta1 ?_)
local macro_rules | `(tactic| walk_at "z") => `(tactic| with_reducible refine z_lcTS ?_)
local macro_rules | `(tactic| walk_at "z") => `(tactic| with_reducible refine z_foTS ?_)
local macro_rules | `(tactic| walk_at "z") => `(tactic| with_reducible refine z_revTS ?_)
local macro_rules | `(tactic| walk_at "z") => `(tactic| with_reducible refine z_max2 ?_)
local macro_rules | `(tactic| walk_at "z") => `(tactic| with_reducible refine z_fldS ?_)
local macro_rules | `(tactic| walk_at "z") => `(tactic| ((with_reducible refine' z_fdt ?zc1 ?zc2 ?zl2 ?_); (case zc1 => exact Lw.cl_Ratio (by assumption)); (case zc2 => exact Lw.na_Ratio_top (by assumption)); (case zl2 => walk_at "up")))
local macro_rules | `(tactic| walk_at "z") => `(tactic| ((with_reducible refine' z_fdb ?zc1 ?zc2 ?zl2 ?_); (case zc1 => exact Lw.cl_Ratio (by assumption)); (case zc2 => exact Lw.na_Ratio_bottom (by assumption)); (case zl2 => walk_at "up")))
local macro_rules | `(tactic| walk_at "z") => `(tactic| ((with_reducible refine' z_fldt ?zc1 ?zc2 ?zl1 ?zl2 ?_); (case zc1 => exact Lw.cl_Ratio (by assumption)); (case zc2 => exact Lw.na_Ratio_top (by assumption)); (case zl1 => exact rfl); (case zl2 => walk_at "up")))
local macro_rules | `(tactic| walk_at "z") => `(tactic| ((with_reducible refine' z_fldb ?zc1 ?zc2 ?zl1 ?zl2 ?_); (case zc1 => exact Lw.cl_Ratio (by assumption)); (case zc2 => exact Lw.na_Ratio_bottom (by assumption)); (case zl1 => exact rfl); (case zl2 => walk_at "up")))
local macro_rules | `(tactic| walk_at "z") => `(tactic| ((with_reducible refine' z_fldG ?zc1 ?zc2 ?zl0 ?zl1 ?zl2 ?_); (case zc1 => exact Lw.cl_Poly (by assumption)); (case zc2 => exact Lw.na_Poly_numbers (by assumption)); (case zl0 => exact rfl); (case zl1 => walk_at "up"); (case zl2 => exact lkA)))
local macro_rules | `(tactic| walk_at "z") => `(tactic| ((with_reducible refine' z_fldG ?zc1 ?zc2 ?zl0 ?zl1 ?zl2 ?_); (case zc1 => exact Lw.cl_Poly (by assumption)); (case zc2 => exact Lw.na_Poly_over (by assumption)); (case zl0 => exact rfl); (case zl1 => walk_at "up"); (case zl2 => exact lkO)))
local macro_rules | `(tactic| walk_at "z") => `(tactic| ((with_reducible refine' z_fldG ?zc1 ?zc2 ?zl0 ?zl1 ?zl2 ?_); (case zc1 => exact Lw.cl_Poly (by assumption)); (case zc2 => exact Lw.na_Poly_degree (by assumption)); (case zl0 => exact rfl); (case zl1 => walk_at "up"); (case zl2 => exact lkD)))
local macro_rules | `(tactic| walk_at "z") => `(tactic| ((with_reducible refine' z_glst ?zl1 ?zl2 ?_); (case zl1 => walk_at "up"); (case zl2 => exact rfl)))
local macro_rules | `(tactic| walk_at "z") => `(tactic| ((with_reducible refine' z_ixLst ?zl1 ?zl2 ?_); (case zl1 => walk_at "up"); (case zl2 => exact rfl)))
local macro_rules | `(tactic| walk_at "z") => `(tactic| ((with_reducible refine' u_mtV ?zl1 ?_); (case zl1 => walk_at "up")))
local macro_rules | `(tactic| walk_at "z") => `(tactic| ((with_reducible refine' u_mtQP ?zl1 ?_); (case zl1 => walk_at "up")))
local macro_rules | `(tactic| walk_at "z") => `(tactic| ((with_reducible refine' z_fldG ?zc1 ?zc2 ?zl0 ?zl1 ?zl2 ?_); (case zc1 => exact Lw.cl_SixClaim (by assumption)); (case zc2 => exact Lw.na_SixClaim_letters (by assumption)); (case zl0 => exact rfl); (case zl1 => walk_at "up"); (case zl2 => exact lkA)))
local macro_rules | `(tactic| walk_at "z") => `(tactic| ((with_reducible refine' z_fldG ?zc1 ?zc2 ?zl0 ?zl1 ?zl2 ?_); (case zc1 => exact Lw.cl_SixClaim (by assumption)); (case zc2 => exact Lw.na_SixClaim_numbers (by assumption)); (case zl0 => exact rfl); (case zl1 => walk_at "up"); (case zl2 => exact (lkB (by decide +kernel) lkA))))
local macro_rules | `(tactic| walk_at "z") => `(tactic| with_reducible refine z_oaI ?_)
local macro_rules | `(tactic| walk_at "z") => `(tactic| with_reducible refine z_osI ?_)
local macro_rules | `(tactic| walk_at "z") => `(tactic| ((with_reducible refine' u_mtSC ?zl1 ?_); (case zl1 => walk_at "up")))
theorem same62i {H H1 H2 : Hp} (h : Same H1 H2) (e : Same H H1) : Same H H2 := e.trans h
local macro_rules | `(tactic| walk_at "sm") => `(tactic| first
  | assumption
  | exact fun _ _ h => h
  | (refine' same62i (by assumption) ?zsm; case zsm => walk_at "sm"))
local macro_rules | `(tactic| walk_at "up") => `(tactic| first
  | assumption
  | (with_reducible refine' IsR.mono (by assumption) ?zup; case zup => walk_at "up")
  | (with_reducible refine' IsV.mono (by assumption) ?zup; case zup => walk_at "up")
  | (with_reducible refine' IsQ.mono (by assumption) ?zup; case zup => walk_at "up")
  | (with_reducible refine' QP.mono (by assumption) ?zup; case zup => walk_at "up")
  | (with_reducible refine' R3.mono (by assumption) ?zup; case zup => walk_at "up")
  | (with_reducible refine' Same.at (by assumption) ?zup; case zup => walk_at "up")
  | (with_reducible refine' IsSC.mono (by assumption) ?zup; case zup => walk_at "up")
  | (with_reducible refine' Inst.mono (by assumption) ?zup; case zup => walk_at "up")
  | fail)
section
variable {P : Program} {w : World} {K : Frag} {mg : Str → Option Value} {base : Heap}
theorem ok_SixClaim_quadratic (L : Lw K mg) {fd : FuncData} (F : FunD K "quadratic" "SixClaim.quadratic" (defArgs s_SixClaim_quadratic) (defBody s_SixClaim_quadratic) (defScope s_SixClaim_quadratic) (df_SixClaim_quadratic.dvs K) (df_SixClaim_quadratic.kws K) (He.fAd K ("SixClaim", some "quadratic")) fd) : FnOk P w K mg base (L2N.CX P w) 7 (He.fAd K ("SixClaim", some "quadratic")) fd (["self"] : List Str) (sp1 (fs_scq K)) := by
  refine FunD.ok F sc_SixClaim_quadratic len1 (fun cdv A outer s H vs Q E hr h => ?_)
  obtain ⟨a, rfl, h⟩ := h
  refine ⟨_, (pss_one (ps_ret (pe_c (c_quadratic_of (K := K) L) hr (by decide) (L2N.takes_of rfl rfl rfl rfl) (pa_cons (pe_fld (pv 0) rfl) pa_nil)))), ?_⟩
  obtain ⟨s, n, a, b, c, B, rfl, ⟨dx, t, hs, h3⟩, B1, B2, k⟩ := h
  walk_at "zz"
  exact ⟨_, rfl, t, a, b, c, B, rfl, h3, B1, B2, k⟩
theorem c_SixClaim_quadratic (L : Lw K mg) : Met P w K mg base 7 (He.ga K "SixClaim") "quadratic" (sp1 (fs_scq K)) [] := by
  obtain ⟨fd, F⟩ := L.d_SixClaim_quadratic
  exact ⟨⟨_, fd, ["self"], [], L.cl_SixClaim, L.me_SixClaim_quadratic, ok_SixClaim_quadratic L F, F.bindsN (fun _ _ _ _ _ _ us hl => match us, hl with | [_], _ => rfl), .nil⟩⟩
theorem ok_SixClaim_holds (L : Lw K mg) {fd : FuncData} (F : FunD K "holds" "SixClaim.holds" (defArgs s_SixClaim_holds) (defBody s_SixClaim_holds) (defScope s_SixClaim_holds) (df_SixClaim_holds.dvs K) (df_SixClaim_holds.kws K) (He.fAd K ("SixClaim", some "holds")) fd) : FnOk P w K mg base (L2N.CX P w) 8 (He.fAd K ("SixClaim", some "holds")) fd (["self"] : List Str) (sp1 (fs_hold K)) := by
  refine FunD.ok F sc_SixClaim_holds len1 (fun cdv A outer s H vs Q E hr h => ?_)
  obtain ⟨a, rfl, h⟩ := h
  refine ⟨_, (pss_one (ps_ret (pe_cmpR o_isN (pe_c (c_first_below (K := K) L) hr (by decide) (L2N.takes_of rfl rfl rfl rfl) (pa_cons (pe_mt0 (c_SixClaim_quadratic (K := K) L) hr (by decide) (L2N.takes_of rfl rfl rfl rfl) (pv 0)) (pa_cons (pe_fld (pv 0) rfl) pa_nil))) pe_non (nomark _)))), ?_⟩
  obtain ⟨s, n, a, b, c, B, rfl, hsc, B1, B2, n1, n2, k⟩ := h
  obtain ⟨dx, t, hs, h3⟩ := id hsc
  walk_at "zz"
  refine ⟨_, rfl, s, n, a, b, c, B, rfl, hsc, B1, B2, fun z H1 s1 hz => ?_⟩
  walk_at "zz"
  refine ⟨_, _, rfl, z, a, b, c, _, n, rfl, rfl, hz, n1, n2, fun j H2 s2 j1 j2 hj => ?_, fun H2 s2 hj => ?_⟩
  · walk_at "zz"
    refine k _ _ (s1.trans s2) ⟨fun e => Bool.noConfusion e, fun e => ?_⟩
    have := e j j1 j2
    grind
  · walk_at "zz"
    exact k _ _ (s1.trans s2) ⟨fun _ => hj, fun _ => rfl⟩
theorem c_SixClaim_holds (L : Lw K mg) : Met P w K mg base 8 (He.ga K "SixClaim") "holds" (sp1 (fs_hold K)) [] := by
  obtain ⟨fd, F⟩ := L.d_SixClaim_holds
  exact ⟨⟨_, fd, ["self"], [], L.cl_SixClaim, L.me_SixClaim_holds, ok_SixClaim_holds L F, F.bindsN (fun _ _ _ _ _ _ us hl => match us, hl with | [_], _ => rfl), .nil⟩⟩
end
end T
set_option maxHeartbeats 4000000
namespace T
open PySem PySem.Spec PyProof.Rows L2 Z
open S31 (cf)
open S30
theorem low_same {ls ms : List Int} {o o' : Int} {a b c : Rat} (l1 : ls.length ≤ 3) (l2 : ms.length ≤ 3) (o0 : 0 < o) (o0' : 0 < o') (t1 : ∀ m, ls.length = m + 1 → cf ls m ≠ 0) (t2 : ∀ m, ms.length = m + 1 → cf ms m ≠ 0)
    (a1 : (cf ls 0 : Rat) = a * o) (b1 : (cf ls 1 : Rat) = b * o) (c1 : (cf ls 2 : Rat) = c * o) (a2 : (cf ms 0 : Rat) = a * o') (b2 : (cf ms 1 : Rat) = b * o') (c2 : (cf ms 2 : Rat) = c * o')
    (d1 : ∀ d : Int, d ∣ o → (∀ k, d ∣ cf ls k) → d ∣ 1) (d2 : ∀ d : Int, d ∣ o' → (∀ k, d ∣ cf ms k) → d ∣ 1) : ls = ms ∧ o = o' := by
  have e : ∀ k, cf ls k * o' = cf ms k * o := fun k => by
    have go : ∀ v : Rat, (cf ls k : Rat) = v * o → (cf ms k : Rat) = v * o' → cf ls k * o' = cf ms k * o := fun v e1 e2 => by
      have : ((cf ls k * o' : Int) : Rat) = ((cf ms k * o : Int) : Rat) := by
        rw [Rat.intCast_mul, Rat.intCast_mul, e1, e2]
        grind
      exact_mod_cast this
    match k with
    | 0 => exact go a a1 a2
    | 1 => exact go b b1 b2
    | 2 => exact go c c1 c2
    | k + 3 => rw [S31.cf_out (by omega), S31.cf_out (by omega), Int.zero_mul, Int.zero_mul]
  have x1 := Int.le_of_dvd o0' (cop_dvd o0 o0' d1 e)
  have x2 := Int.le_of_dvd o0 (cop_dvd o0' o0 d2 fun k => (e k).symm)
  have eo : o = o' := by omega
  subst eo
  have ek : ∀ k, cf ls k = cf ms k := fun k => Int.eq_of_mul_eq_mul_right (by omega) (e k)
  have len : ls.length = ms.length := by
    rcases Nat.lt_trichotomy ls.length ms.length with q | q | q
    · exact absurd (by rw [← ek]; exact S31.cf_out (by omega)) (t2 (ms.length - 1) (by omega))
    · exact q
    · exact absurd (by rw [ek]; exact S31.cf_out (by omega)) (t1 (ls.length - 1) (by omega))
  have el : ls = ms := List.ext_getElem len fun i i1 i2 => by
    have := ek i
    rwa [S31.cf_in i1, S31.cf_in i2] at this
  subst el
  exact ⟨rfl, rfl⟩
theorem eqv_ints : ∀ ls ms : List Int, PyData.eqvAll (ls.map PyData.int) (ms.map PyData.int) = decide (ls = ms)
  | [], [] => rfl
  | [], _ :: _ => rfl
  | _ :: _, [] => rfl
  | x :: ls, y :: ms => by
    show (PyData.eqv (.int x) (.int y) && PyData.eqvAll (ls.map PyData.int) (ms.map PyData.int)) = _
    rw [eqv_ints ls ms]
    show ((x == y) && decide (ls = ms)) = _
    by_cases e : x = y
    · subst e
      simp
    · simp [e]
theorem dps {K : Frag} {H : Hp} : ∀ ls : List Int, DpAll K H (ls.map V.int) (ls.map PyData.int)
  | [] => .nil
  | x :: l => .cons (.int x) (dps l)
theorem lay_ints : ∀ ls : List Int, PyData.canLayAll0 (ls.map PyData.int) = true ∧ PyData.depthAll (ls.map PyData.int) ≤ 1
  | [] => ⟨by simp [PyData.canLayAll0], by simp [PyData.depthAll]⟩
  | x :: l => by
    obtain ⟨h1, h2⟩ := lay_ints l
    refine ⟨?_, ?_⟩
    · simp [PyData.canLayAll0, PyData.canLay0, h1]
    · simp [PyData.depthAll, PyData.depth]
      omega
theorem shp (ls : List Int) : SeqAt.shaped (.tuple (ls.map PyData.int)) = true := by
  obtain ⟨h1, h2⟩ := lay_ints ls
  show (PyData.canLay0 (.tuple (ls.map PyData.int)) && decide ((PyData.tuple (ls.map PyData.int)).depth ≤ 64)) = true
  have : (PyData.tuple (ls.map PyData.int)).depth ≤ 64 := by
    show PyData.depthAll (ls.map PyData.int) + 1 ≤ 64
    omega
  rw [decide_eq_true this, Bool.and_true]
  simpa [PyData.canLay0] using h1
theorem z_eqTD {K : Frag} {a e : Addr} {ls ms : List Int} {H : Hp} {Q : VK} (h : H a = some (.tup (ls.map V.int))) (he : H e = some (.tup (ms.map V.int))) (q : Q (.bl (decide (ls = ms))) H) : rOr rEq (rEqD K) (.ref a) (.ref e) H Q :=
  .inr ⟨.tuple (ls.map .int), .tuple (ms.map .int), .tup (SqT.of h) (dps ls), .tup (SqT.of he) (dps ms), shp ls, shp ms, by
    have e2 : PyData.eqv (.tuple (ls.map PyData.int)) (.tuple (ms.map PyData.int)) = decide (ls = ms) := eqv_ints ls ms
    rw [e2]
    exact q⟩
def fs_peq (K : Frag) : F2 := fun x y H Q _ => ∃ (p r : Addr) (ls ms : List Int) (o o' : Int), x = .ref p ∧ y = .ref r ∧ IsQ K H p ls o ∧ IsQ K H r ms o' ∧ Q (.bl (decide (ls = ms ∧ o = o'))) H
theorem QP.fun {K : Frag} {H : Hp} {p r : Addr} {a b c a' b' c' : Rat} {N M : Nat} (h1 : QP K H p a b c N) (h2 : QP K H r a' b' c' M) : ∃ ls o ms o', IsQ K H p ls o ∧ IsQ K H r ms o' ∧ ((ls = ms ∧ o = o') ↔ (a = a' ∧ b = b' ∧ c = c')) := by
  obtain ⟨ls, o, q1, l1, o0, _, _, t1, a1, b1, c1, d1⟩ := h1
  obtain ⟨ms, o', q2, l2, o0', _, _, t2, a2, b2, c2, d2⟩ := h2
  refine ⟨ls, o, ms, o', q1, q2, ?_, ?_⟩
  · rintro ⟨rfl, rfl⟩
    have on := ne_cast (show o ≠ 0 by omega)
    exact ⟨by grind, by grind, by grind⟩
  · rintro ⟨rfl, rfl, rfl⟩
    exact low_same l1 l2 o0 o0' t1 t2 a1 b1 c1 a2 b2 c2 d1 d2
theorem u_eqB {K : Frag} {H : Hp} {Q : VK} {E : XK} {p r : Addr} {a b c a' b' c' : Rat} {N M : Nat} (h1 : QP K H p a b c N) (h2 : QP K H r a' b' c' M) (k : ∀ t, (t = true ↔ (a = a' ∧ b = b' ∧ c = c')) → Q (.bl t) H) : rOwnB (He.ga K "Poly") (sp2 (fs_peq K)) E (.ref p) (.ref r) H Q := by
  obtain ⟨ls, o, ms, o', q1, q2, e⟩ := h1.fun h2
  obtain ⟨dx, t, e1, _⟩ := id q1
  obtain ⟨dy, t', e2, _⟩ := id q2
  exact z_ownB e1 e2 ⟨_, _, rfl, p, r, ls, ms, o, o', rfl, rfl, q1, q2, ⟨_, rfl⟩, k _ (by rw [decide_eq_true_eq]; exact e)⟩
theorem z_isN {K : Frag} {H : Hp} {Q : VK} {p dx : Addr} {fs : List (Str × V)} {C : Str} {C2 : Addr} {c : Bool} (I : InsK K (He.ga K C)) (hk : PySem.W.kitOne K (.ref (He.ga K C)) (.ref C2) = some c) (h : H p = some (.ins (He.ga K C) dx fs)) (q : Q (.bl c) H) : rIsi K [.ref p, .ref C2] H Q :=
  z_isi (.own C2) (I.ty h) hk q
theorem u_paddO {K : Frag} {r0 : R2} {H : Hp} {Q : VK} {E : XK} {p r : Addr} {a b c a' b' c' : Rat} {N M : Nat} (h1 : QP K H p a b c N) (h2 : QP K H r a' b' c' M) (hN : N + M ≤ 8990 ∧ N ≤ 5990 ∧ M ≤ 5990) (k : ∀ w H', Same H H' → QP K H' w (a + a') (b + b') (c + c') (N + M + N + M + 1) → Q (.ref w) H') : rOr r0 (rOwn2 (He.ga K "Poly") (sp2 (fs_padd K)) E) (.ref p) (.ref r) H Q := by
  obtain ⟨ls, o, ⟨dx, t, q1, _⟩, _⟩ := id h1
  obtain ⟨ls', o', ⟨dx', t', q2, _⟩, _⟩ := id h2
  exact z_own2 q1 q2 ⟨_, _, rfl, p, r, a, b, c, a', b', c', N, M, rfl, rfl, h1, h2, hN, fun w H' s q => ⟨⟨w, rfl⟩, k w H' s q⟩⟩
/-- the paper shows the claim -/
def Shw (k n : Int) (a b c A x y z : Rat) : Prop := k < n ∧ 0 ≤ A ∧ (∀ t, 0 ≤ S66.rv x y z t) ∧ a = x + bA k n * A ∧ b = y + bB k n * A ∧ c = z + bC k * A
/-- a SixPaper: block, amount, rest -/
def IsSix (K : Frag) (H : Hp) (s : Addr) (k : Int) (w v : Addr) : Prop := ∃ dx, H s = some (.ins (He.ga K "SixPaper") dx [("block", .int k), ("amount", .ref w), ("rest", .ref v)])
theorem IsSix.mono {K : Frag} {H H' : Hp} {s : Addr} {k : Int} {w v : Addr} (e : Same H H') (h : IsSix K H s k w v) : IsSix K H' s k w v := by
  obtain ⟨dx, h⟩ := h
  exact ⟨dx, e _ _ h⟩
def Says1 (K : Frag) (H : Hp) (cl s : Addr) (due : Bool) : Prop := ∃ (k n : Int) (w v : Addr) (a b c A x y z : Rat) (B : Nat), IsSix K H s k w v ∧ IsV K H w A 40 ∧ QP K H v x y z 300 ∧ IsSC K H cl n a b c B ∧ 0 ≤ k ∧ k ≤ 200 ∧ 2 ≤ n ∧ n ≤ 200 ∧ 1 ≤ B ∧ B ≤ 400 ∧ (due = true ↔ Shw k n a b c A x y z)
def Says2 (K : Frag) (H : Hp) (cl s : Addr) (due : Bool) : Prop := ∃ (k : Int) (w v dy : Addr) (C : Str) (fs : List (Str × V)), IsSix K H s k w v ∧ (C = "LineClaim" ∨ C = "FourClaim") ∧ H cl = some (.ins (He.ga K C) dy fs) ∧ due = false
def Says3 (K : Frag) (H : Hp) (cl s : Addr) (due : Bool) : Prop := ∃ (k n : Int) (w v : Addr) (a b c A : Rat) (B : Nat) (ls : List Int) (o : Int), IsSix K H s k w v ∧ IsV K H w A 40 ∧ IsQ K H v ls o ∧ 3 < ls.length ∧ ls.length ≤ 200 ∧ IsSC K H cl n a b c B ∧ k < n ∧ 0 ≤ A ∧ due = false
def Says4 (K : Frag) (H : Hp) (cl s : Addr) (due : Bool) : Prop := ∃ (n : Int) (a b c : Rat) (B : Nat) (dx : Addr) (fs : List (Str × V)), H s = some (.ins (He.ga K "CutPaper") dx fs) ∧ IsSC K H cl n a b c B ∧ fs.lookup ("shows" : Str) = none ∧ due = false
def Says (K : Frag) (H : Hp) (cl s : Addr) (due : Bool) : Prop := (Says1 K H cl s due ∨ Says2 K H cl s due ∨ Says3 K H cl s due) ∨ Says4 K H cl s due
theorem Says.mono {K : Frag} {H H' : Hp} {cl s : Addr} {due : Bool} (e : Same H H') (h : Says K H cl s due) : Says K H' cl s due := by
  rcases h with (h | h | h) | h
  · obtain ⟨k, n, w, v, a, b, c, A, x, y, z, B, h1, h2, h3, h4, h⟩ := h
    exact .inl (.inl ⟨k, n, w, v, a, b, c, A, x, y, z, B, h1.mono e, h2.mono e, h3.mono e, h4.mono e, h⟩)
  · obtain ⟨k, w, v, dy, C, fs, h1, h2, h3, h⟩ := h
    exact .inl (.inr (.inl ⟨k, w, v, dy, C, fs, h1.mono e, h2, e _ _ h3, h⟩))
  · obtain ⟨k, n, w, v, a, b, c, A, B, ls, o, h1, h2, h3, l1, l2, h4, h⟩ := h
    exact .inl (.inr (.inr ⟨k, n, w, v, a, b, c, A, B, ls, o, h1.mono e, h2.mono e, h3.mono e, l1, l2, h4.mono e, h⟩))
  · obtain ⟨n, a, b, c, B, dx, fs, h1, h2, h⟩ := h
    exact .inr ⟨n, a, b, c, B, dx, fs, e _ _ h1, h2.mono e, h⟩
def fs_isq (K : Frag) : F1 := fun x H Q _ => ∃ (s dx : Addr) (k : Int) (w v : V), x = .ref s ∧ H s = some (.ins (He.ga K "SixPaper") dx [("block", .int k), ("amount", w), ("rest", v)]) ∧ Q (.bl (decide (k < 2))) H
def fs_nbl (K : Frag) : F1 := fun x H Q E => fs_nb K x H Q E ∨ ∃ (p : Addr) (ls : List Int) (o : Int), x = .ref p ∧ IsQ K H p ls o ∧ 3 < ls.length ∧ Q (.bl false) H
def fs_psh (K : Frag) : F2 := fun x y H Q _ => ∃ (s cl : Addr) (due : Bool), x = .ref s ∧ y = .ref cl ∧ (Says1 K H cl s due ∨ Says2 K H cl s due ∨ Says3 K H cl s due) ∧ ∀ H', Same H H' → Q (.bl due) H'
def fs_csh (K : Frag) : F2 := fun x y H Q _ => ∃ (s cl : Addr) (due : Bool), x = .ref s ∧ y = .ref cl ∧ Says4 K H cl s due ∧ ∀ H', Same H H' → Q (.bl due) H'
def fs_judge (K : Frag) : F2 := fun x y H Q _ => ∃ (s cl : Addr) (due : Bool), x = .ref cl ∧ y = .ref s ∧ Says K H cl s due ∧ ∀ H', Same H H' → Q (.bl due) H'
local macro_rules | `(tactic| walk_at "up") => `(tactic| first
  | assumption
  | (refine' IsR.mono (by assumption) ?zup; case zup => walk_at "up")
  | (refine' IsE.mono (by assumption) ?zup; case zup => walk_at "up")
  | (refine' Same.at (by assumption) ?zup; case zup => walk_at "up")
  | (refine' SqL.of ?zup; case zup => walk_at "up")
  | (refine' L2.Same.seq (by assumption) ?zup; case zup => walk_at "up"))
local macro_rules | `(tactic| walk_at "z") => `(tactic| first
  | ((with_reducible refine' z_var ?zvh ?_); (case zvh => exact rfl))
  | with_reducible refine z_c ?_
  | with_reducible refine z_cons ?_
  | with_reducible refine z_nil ?_
  | with_reducible refine z_op ?_
  | with_reducible refine z_nx ?_
  | with_reducible refine z_seq ?_
  | with_reducible refine z_asg ?_
  | with_reducible refine z_asgG ?_
  | with_reducible refine z_call ?_
  | with_reducible refine z_sq0 ?_
  | with_reducible refine z_sq1 ?_
  | with_reducible refine z_ifS ?_
  | with_reducible refine z_test ?_
  | with_reducible refine z_tb ?_
  | with_reducible refine z_bl ?_
  | with_reducible refine z_blI ?_
  | with_reducible refine z_ret ?_
  | with_reducible refine z_rt ?_
  | with_reducible refine z_T ?_
  | with_reducible refine z_F ?_
  | with_reducible refine z_add ?_
  | with_reducible refine z_sub ?_
  | with_reducible refine z_neg ?_
  | with_reducible refine z_un ?_
  | with_reducible refine z_eqI ?_
  | with_reducible refine z_neI ?_
  | with_reducible refine z_lt ?_
  | with_reducible refine z_le ?_
  | with_reducible refine z_gt ?_
  | with_reducible refine z_ge ?_
  | with_reducible refine z_not ?_
  | with_reducible refine z_and ?_
  | with_reducible refine z_or ?_
  | with_reducible refine z_andV ?_
  | with_reducible refine z_orV ?_
  | with_reducible refine z_notV ?_
  | with_reducible refine z_if ?_
  | with_reducible refine z_cb ?_
  | with_reducible refine z_int1 ?_
  | with_reducible refine z_intb ?_
  | with_reducible refine z_abs ?_
  | with_reducible refine z_gcd ?_
  | with_reducible refine z_isi_ii ?_
  | with_reducible refine z_isi_ib ?_
  | with_reducible refine z_next ?_
  | with_reducible refine z_drop ?_
  | with_reducible refine z_par ?_
  | with_reducible refine z_par2 ?_
  | with_reducible refine z_tupN ?_
  | with_reducible refine z_lstN ?_
  | ((with_reducible refine' z_nt ?zl1 ?_); (case zl1 => exact Nat.le_of_ble_eq_true rfl); intro p H' hp hs he)
  | ((with_reducible refine' z_gtup ?zl1 ?zl2 ?_); (case zl1 => walk_at "up"); (case zl2 => exact rfl))
  | with_reducible refine z_bk ?_
  | with_reducible refine z_ct ?_
  | with_reducible refine z_break ?_
  | with_reducible refine z_cont ?_
  | with_reducible refine z_retN ?_
  | with_reducible refine z_nn ?_
  | with_reducible refine z_mk ?_
  | with_reducible refine z_gn ?_
  | with_reducible refine z_gcons ?_
  | with_reducible refine z_gnil ?_
  | with_reducible refine z_mt ?_
  | with_reducible refine z_mko ?_
  | with_reducible refine z_for2 ?_
  | with_reducible refine z_ownI ?_
  | ((with_reducible refine' z_lenL ?zl1 ?_); (case zl1 => walk_at "up"))
  | ((with_reducible refine' z_ixT ?zl1 ?zl2 ?_); (case zl1 => walk_at "up"); (case zl2 => exact rfl))
  | ((with_reducible refine' z_mulL ?zl1 ?zl2 ?_); (case zl1 => omega); (case zl2 => omega))
  | ((with_reducible refine' z_mulR ?zl1 ?zl2 ?_); (case zl1 => omega); (case zl2 => omega))
  | ((with_reducible refine' z_divS ?zl1 ?zl2 ?_); (case zl1 => omega); (case zl2 => omega))
  | ((with_reducible refine' z_mulW ?zl1 ?zl2 ?zl3 ?zl4 ?_); (case zl1 => omega); (case zl2 => omega); (case zl3 => omega); (case zl4 => omega))
  | ((with_reducible refine' z_divW ?zl1 ?zl2 ?_); (case zl1 => omega); (case zl2 => omega)))
local macro_rules | `(tactic| walk_at "zz") => `(tactic| repeat (walk_at "z"))
local macro_rules | `(tactic| walk_at "z") => `(tactic| with_reducible refine z_lstN ?_)
local macro_rules | `(tactic| walk_at "z") => `(tactic| with_reducible refine z_p6 ?_)
local macro_rules | `(tactic| walk_at "z") => `(tactic| with_reducible refine z_p12 ?_)
local macro_rules | `(tactic| walk_at "z") => `(tactic| with_reducible refine z_p13 ?_)
local macro_rules | `(tactic| walk_at "z") => `(tactic| with_reducible refine z_calln ?_)
local macro_rules | `(tactic| walk_at "z") => `(tactic| with_reducible refine z_xfS ?_)
local macro_rules | `(tactic| walk_at "z") => `(tactic| with_reducible refine z_lcS ?_)
local macro_rules | `(tactic| walk_at "z") => `(tactic| with_reducible refine z_lcRS ?_)
local macro_rules | `(tactic| walk_at "z") => `(tactic| with_reducible refine z_lcZS ?_)
local macro_rules | `(tactic| walk_at "z") => `(tactic| with_reducible refine z_foS ?_)
local macro_rules | `(tactic| walk_at "z") => `(tactic| with_reducible refine z_for1 ?_)
local macro_rules | `(tactic| walk_at "z") => `(tactic| with_reducible refine z_tsl ?_)
local macro_rules | `(tactic| walk_at "z") => `(tactic| with_reducible refine z_np ?_)
local macro_rules | `(tactic| walk_at "z") => `(tactic| with_reducible refine z_pt ?_)
local macro_rules | `(tactic| walk_at "z") => `(tactic| with_reducible refine z_pti ?_)
local macro_rules | `(tactic| walk_at "z") => `(tactic| with_reducible refine z_catI ?_)
local macro_rules | `(tactic| walk_at "z") => `(tactic| with_reducible refine z_isNI ?_)
local macro_rules | `(tactic| walk_at "z") => `(tactic| with_reducible refine z_isNN ?_)
local macro_rules | `(tactic| walk_at "z") => `(tactic| with_reducible refine z_notNI ?_)
local macro_rules | `(tactic| walk_at "z") => `(tactic| with_reducible refine z_notNN ?_)
local macro_rules | `(tactic| walk_at "z") => `(tactic| with_reducible refine z_gsub ?_)
local macro_rules | `(tactic| walk_at "z") => `(tactic| with_reducible refine z_isNb ?_)
local macro_rules | `(tactic| walk_at "z") => `(tactic| with_reducible refine z_notNb ?_)
local macro_rules | `(tactic| walk_at "z") => `(tactic| ((with_reducible refine' z_nlR ?zl1 ?_); (case zl1 => exact Nat.le_of_ble_eq_true rfl); intro p H' hp hs he))
local macro_rules | `(tactic| walk_at "z") => `(tactic| ((with_reducible refine' z_repR ?zl1 ?zl2 ?_); (case zl1 => omega); (case zl2 => omega)))
local macro_rules | `(tactic| walk_at "z") => `(tactic| ((with_reducible refine' z_repL ?zl1 ?zl2 ?_); (case zl1 => omega); (case zl2 => omega)))
local macro_rules | `(tactic| walk_at "z") => `(tactic| ((with_reducible refine' z_lenLst ?zl1 ?_); (case zl1 => walk_at "up")))
local macro_rules | `(tactic| walk_at "z") => `(tactic| ((with_reducible refine' z_cat ?zl1 ?zl2 ?zl3 ?_); (case zl1 => walk_at "up"); (case zl2 => walk_at "up"); (case zl3 => (simp only [List.length_map, List.length_cons, List.length_nil, List.length_append, List.length_replicate]; omega)); intro p H' hp hs he))
local macro_rules | `(tactic| walk_at "z") => `(tactic| with_reducible refine z_sfl ?_)
local macro_rules | `(tactic| walk_at "z") => `(tactic| with_reducible refine z_lcES ?_)
local macro_rules | `(tactic| walk_at "z") => `(tactic| with_reducible refine z_lcMS ?_)
local macro_rules | `(tactic| walk_at "z") => `(tactic| with_reducible refine z_foES ?_)
local macro_rules | `(tactic| walk_at "z") => `(tactic| with_reducible refine z_fo3S ?_)
local macro_rules | `(tactic| walk_at "z") => `(tactic| with_reducible refine z_sta ?_)
local macro_rules | `(tactic| walk_at "z") => `(tactic| with_reducible refine z_sta1 ?_)
local macro_rules | `(tactic| walk_at "z") => `(tactic| with_reducible refine z_lcTS ?_)
local macro_rules | `(tactic| walk_at "z") => `(tactic| with_reducible refine z_foTS ?_)
local macro_rules | `(tactic| walk_at "z") => `(tactic| with_reducible refine z_revTS ?_)
local macro_rules | `(tactic| walk_at "z") => `(tactic| with_reducible refine z_max2 ?_)
local macro_rules | `(tactic| walk_at "z") => `(tactic| with_reducible refine z_fldS ?_)
local macro_rules | `(tactic| walk_at "z") => `(tactic| ((with_reducible refine' z_fdt ?zc1 ?zc2 ?zl2 ?_); (case zc1 => exact Lw.cl_Ratio (by assumption)); (case zc2 => exact Lw.na_Ratio_top (by assumption)); (case zl2 => walk_at "up")))
local macro_rules | `(tactic| walk_at "z") => `(tactic| ((with_reducible refine' z_fdb ?zc1 ?zc2 ?zl2 ?_); (case zc1 => exact Lw.cl_Ratio (by assumption)); (case zc2 => exact Lw.na_Ratio_bottom (by assumption)); (case zl2 => walk_at "up")))
local macro_rules | `(tactic| walk_at "z") => `(tactic| ((with_reducible refine' z_fldt ?zc1 ?zc2 ?zl1 ?zl2 ?_); (case zc1 => exact Lw.cl_Ratio (by assumption)); (case zc2 => exact Lw.na_Ratio_top (by assumption)); (case zl1 => exact rfl); (case zl2 => walk_at "up")))
local macro_rules | `(tactic| walk_at "z") => `(tactic| ((with_reducible refine' z_fldb ?zc1 ?zc2 ?zl1 ?zl2 ?_); (case zc1 => exact Lw.cl_Ratio (by assumption)); (case zc2 => exact Lw.na_Ratio_bottom (by assumption)); (case zl1 => exact rfl); (case zl2 => walk_at "up")))
local macro_rules | `(tactic| walk_at "z") => `(tactic| ((with_reducible refine' z_fldG ?zc1 ?zc2 ?zl0 ?zl1 ?zl2 ?_); (case zc1 => exact Lw.cl_Poly (by assumption)); (case zc2 => exact Lw.na_Poly_numbers (by assumption)); (case zl0 => exact rfl); (case zl1 => walk_at "up"); (case zl2 => exact lkA)))
local macro_rules | `(tactic| walk_at "z") => `(tactic| ((with_reducible refine' z_fldG ?zc1 ?zc2 ?zl0 ?zl1 ?zl2 ?_); (case zc1 => exact Lw.cl_Poly (by assumption)); (case zc2 => exact Lw.na_Poly_over (by assumption)); (case zl0 => exact rfl); (case zl1 => walk_at "up"); (case zl2 => exact lkO)))
local macro_rules | `(tactic| walk_at "z") => `(tactic| ((with_reducible refine' z_fldG ?zc1 ?zc2 ?zl0 ?zl1 ?zl2 ?_); (case zc1 => exact Lw.cl_Poly (by assumption)); (case zc2 => exact Lw.na_Poly_degree (by assumption)); (case zl0 => exact rfl); (case zl1 => walk_at "up"); (case zl2 => exact lkD)))
local macro_rules | `(tactic| walk_at "z") => `(tactic| ((with_reducible refine' z_glst ?zl1 ?zl2 ?_); (case zl1 => walk_at "up"); (case zl2 => exact rfl)))
local macro_rules | `(tactic| walk_at "z") => `(tactic| ((with_reducible refine' z_ixLst ?zl1 ?zl2 ?_); (case zl1 => walk_at "up"); (case zl2 => exact rfl)))
local macro_rules | `(tactic| walk_at "z") => `(tactic| ((with_reducible refine' u_mtV ?zl1 ?_); (case zl1 => walk_at "up")))
local macro_rules | `(tactic| walk_at "z") => `(tactic| ((with_reducible refine' u_mtQP ?zl1 ?_); (case zl1 => walk_at "up")))
local macro_rules | `(tactic| walk_at "z") => `(tactic| ((with_reducible refine' z_fldG ?zc1 ?zc2 ?zl0 ?zl1 ?zl2 ?_); (case zc1 => exact Lw.cl_SixClaim (by assumption)); (case zc2 => exact Lw.na_SixClaim_letters (by assumption)); (case zl0 => exact rfl); (case zl1 => walk_at "up"); (case zl2 => exact lkA)))
local macro_rules | `(tactic| walk_at "z") => `(tactic| ((with_reducible refine' z_fldG ?zc1 ?zc2 ?zl0 ?zl1 ?zl2 ?_); (case zc1 => exact Lw.cl_SixClaim (by assumption)); (case zc2 => exact Lw.na_SixClaim_numbers (by assumption)); (case zl0 => exact rfl); (case zl1 => walk_at "up"); (case zl2 => exact (lkB (by decide +kernel) lkA))))
local macro_rules | `(tactic| walk_at "z") => `(tactic| ((with_reducible refine' z_fldG ?zc1 ?zc2 ?zl0 ?zl1 ?zl2 ?_); (case zc1 => exact Lw.cl_SixPaper (by assumption)); (case zc2 => exact Lw.na_SixPaper_block (by assumption)); (case zl0 => exact rfl); (case zl1 => walk_at "up"); (case zl2 => exact lkA)))
local macro_rules | `(tactic| walk_at "z") => `(tactic| ((with_reducible refine' z_fldG ?zc1 ?zc2 ?zl0 ?zl1 ?zl2 ?_); (case zc1 => exact Lw.cl_SixPaper (by assumption)); (case zc2 => exact Lw.na_SixPaper_amount (by assumption)); (case zl0 => exact rfl); (case zl1 => walk_at "up"); (case zl2 => exact (lkB (by decide +kernel) lkA))))
local macro_rules | `(tactic| walk_at "z") => `(tactic| ((with_reducible refine' z_fldG ?zc1 ?zc2 ?zl0 ?zl1 ?zl2 ?_); (case zc1 => exact Lw.cl_SixPaper (by assumption)); (case zc2 => exact Lw.na_SixPaper_rest (by assumption)); (case zl0 => exact rfl); (case zl1 => walk_at "up"); (case zl2 => exact (lkB (by decide +kernel) (lkB (by decide +kernel) lkA)))))
local macro_rules | `(tactic| walk_at "z") => `(tactic| with_reducible refine z_oaI ?_)
local macro_rules | `(tactic| walk_at "z") => `(tactic| with_reducible refine z_osI ?_)
local macro_rules | `(tactic| walk_at "z") => `(tactic| ((with_reducible refine' u_mtSC ?zl1 ?_); (case zl1 => walk_at "up")))
theorem same62b {H H1 H2 : Hp} (h : Same H1 H2) (e : Same H H1) : Same H H2 := e.trans h
local macro_rules | `(tactic| walk_at "sm") => `(tactic| first
  | assumption
  | exact fun _ _ h => h
  | (refine' same62b (by assumption) ?zsm; case zsm => walk_at "sm"))
local macro_rules | `(tactic| walk_at "up") => `(tactic| first
  | assumption
  | (with_reducible refine' IsR.mono (by assumption) ?zup; case zup => walk_at "up")
  | (with_reducible refine' IsV.mono (by assumption) ?zup; case zup => walk_at "up")
  | (with_reducible refine' IsQ.mono (by assumption) ?zup; case zup => walk_at "up")
  | (with_reducible refine' QP.mono (by assumption) ?zup; case zup => walk_at "up")
  | (with_reducible refine' R3.mono (by assumption) ?zup; case zup => walk_at "up")
  | (with_reducible refine' Same.at (by assumption) ?zup; case zup => walk_at "up")
  | (with_reducible refine' IsSC.mono (by assumption) ?zup; case zup => walk_at "up")
  | (with_reducible refine' IsSix.mono (by assumption) ?zup; case zup => walk_at "up")
  | (with_reducible refine' Says.mono (by assumption) ?zup; case zup => walk_at "up")
  | fail)
section
variable {P : Program} {w : World} {K : Frag} {mg : Str → Option Value} {base : Heap}
theorem ok_PolyD_eqD (L : Lw K mg) {fd : FuncData} (F : FunD K "__eq__" "Poly.__eq__" (defArgs s_PolyD_eqD) (defBody s_PolyD_eqD) (defScope s_PolyD_eqD) (df_PolyD_eqD.dvs K) (df_PolyD_eqD.kws K) (He.fAd K ("Poly", some "__eq__")) fd) : FnOk P w K mg base (L2N.CX P w) 2 (He.fAd K ("Poly", some "__eq__")) fd (["self", "other"] : List Str) (sp2 (fs_peq K)) := by
  refine FunD.ok F sc_PolyD_eqD len2 (fun cdv A outer s H vs Q E hr h => ?_)
  obtain ⟨a, b, rfl, h⟩ := h
  refine ⟨_, (pss_one (ps_ret (pe_and (pe_callB (callK rIsi (K := K) rfl call_isi) (by rfl) L.f_isinstance (by decide +kernel) (pa_cons (pv 1) (pa_cons (pe_cls L.g_Poly) pa_nil))) (pe_and (pe_cmpR (op_or2 op_eq (op_eqD hr.units)) (pe_fld (pv 0) rfl) (pe_fld (pv 1) rfl) (nomark _)) (pe_one (pe_cmpR (op_or2 op_eq (op_eqD hr.units)) (pe_fld (pv 0) rfl) (pe_fld (pv 1) rfl) (nomark _))))))), ?_⟩
  obtain ⟨p, r, ls, ms, o, o', rfl, rfl, ⟨dx, t, h1, e1⟩, ⟨dx', t', h2, e2⟩, k⟩ := h
  walk_at "zz"
  refine z_isN L.in_Poly L.kt_Poly_Poly h2 ?_
  walk_at "zz"
  refine z_eqTD e1 e2 ?_
  by_cases e : ls = ms
  · rw [decide_eq_true e]
    walk_at "zz"
    refine .inl ?_
    walk_at "zz"
    rw [show decide (o = o') = decide (ls = ms ∧ o = o') from by simp [e]]
    exact k
  · rw [decide_eq_false e]
    walk_at "zz"
    rw [show (false : Bool) = decide (ls = ms ∧ o = o') from by simp [e]]
    exact k
theorem c_PolyD_eqD (L : Lw K mg) : Met P w K mg base 2 (He.ga K "Poly") "__eq__" (sp2 (fs_peq K)) [] := by
  obtain ⟨fd, F⟩ := L.d_PolyD_eqD
  exact ⟨⟨_, fd, ["self", "other"], [], L.cl_Poly, L.me_PolyD_eqD, ok_PolyD_eqD L F, F.bindsN (fun _ _ _ _ _ _ us hl => match us, hl with | [_, _], _ => rfl), .nil⟩⟩
theorem ok_SixPaper_is_squares (L : Lw K mg) {fd : FuncData} (F : FunD K "is_squares" "SixPaper.is_squares" (defArgs s_SixPaper_is_squares) (defBody s_SixPaper_is_squares) (defScope s_SixPaper_is_squares) (df_SixPaper_is_squares.dvs K) (df_SixPaper_is_squares.kws K) (He5.wf K (He.ga K "SixPaper") "property" "is_squares") fd) : FnOk P w K mg base (L2N.CX P w) 1 (He5.wf K (He.ga K "SixPaper") "property" "is_squares") fd (["self"] : List Str) (sp1 (fs_isq K)) := by
  refine FunD.ok F sc_SixPaper_is_squares len1 (fun cdv A outer s H vs Q E hr h => ?_)
  obtain ⟨a, rfl, h⟩ := h
  refine ⟨_, (pss_one (ps_ret (pe_cmpR o_lt (pe_fld (pv 0) rfl) pe_int (nomark _)))), ?_⟩
  obtain ⟨s, dx, k, w, v, rfl, hs, q⟩ := h
  walk_at "zz"
  exact q
theorem c_SixPaper_is_squares (L : Lw K mg) : Prp P w K mg base 1 (He.ga K "SixPaper") "is_squares" (sp1 (fs_isq K)) := by
  obtain ⟨fd, F⟩ := L.d_SixPaper_is_squares
  exact ⟨⟨_, _, fd, ["self"], L.cl_SixPaper, L.pr_SixPaper_is_squares, ok_SixPaper_is_squares L F, F.bindsN (fun _ _ _ _ _ _ us hl => match us, hl with | [_], _ => rfl)⟩⟩
theorem ok_is_never_belowL (L : Lw K mg) {fd : FuncData} (F : FunD K "is_never_below" "is_never_below" (defArgs s_is_never_below) (defBody s_is_never_below) (defScope s_is_never_below) (df_is_never_below.dvs K) (df_is_never_below.kws K) (He.fAd K ("is_never_below", none)) fd) : FnOk P w K mg base (L2N.CX P w) 2 (He.fAd K ("is_never_below", none)) fd (["poly"] : List Str) (sp1 (fs_nbl K)) := by
  refine FunD.ok F sc_is_never_below len1 (fun cdv A outer s H vs Q E hr h => ?_)
  obtain ⟨a, rfl, h⟩ := h
  refine ⟨_, (pss_cons (ps_if (pt_cmpR o_gt (pe_fld (pv 0) rfl) pe_int (nomark _)) (pss_one (ps_ret pe_bl)) pss_nil)
    (pss_cons (ps_asg (pe_c (c_whole_three (K := K) L) hr (by decide) (L2N.takes_of rfl rfl rfl rfl) (pa_cons (pv 0) pa_nil)) (pg_lst (by rfl) (pgs_cons (pg_name (i := 1) sc_is_never_below.nd rfl (by first | exact Or.inl rfl | exact Or.inr rfl)) (pgs_cons (pg_name (i := 2) sc_is_never_below.nd rfl (by first | exact Or.inl rfl | exact Or.inr rfl)) (pgs_cons (pg_name (i := 3) sc_is_never_below.nd rfl (by first | exact Or.inl rfl | exact Or.inr rfl)) pgs_nil)))))
    (pss_cons (ps_if (pt_cmpR op_eq (pv 3) pe_int (nomark _)) (pss_one (ps_ret (pe_and (pe_cmpR op_eq (pv 2) pe_int (nomark _)) (pe_one (pe_cmpR o_ge (pv 1) pe_int (nomark _)))))) pss_nil)
    (pss_one (ps_ret (pe_and (pe_cmpR o_gt (pv 3) pe_int (nomark _)) (pe_one (pe_cmpR o_le (pe_op o_rep (pv 2) (pv 2)) (pe_op o_rep (pe_op o_rep pe_int (pv 3)) (pv 1)) (nomark _))))))))), ?_⟩
  rcases h with h | ⟨p, ls, o, rfl, ⟨dx, t, h1, e1⟩, l3, k⟩
  · obtain ⟨p, a, b, c, N, rfl, hq, hN, k⟩ := h
    obtain ⟨ls, o, ⟨dx, tu, hp, htu⟩, hl, _⟩ := id hq
    walk_at "zz"
    refine z_dF (by omega) ?_
    walk_at "zz"
    refine u_w3 hq (fun l H1 A B C o s1 hl o0 bA bB bC ea eb ec => ?_)
    have zb := zero_of o0 eb
    have zc := zero_of o0 ec
    have sa := sgn_cast o0 ea
    have sc := sgn_cast o0 ec
    walk_at "zz"
    refine z_d2 (fun cc => ?_) (fun cc => ?_)
    · have c0 := zc.mp cc
      walk_at "zz"
      refine z_d2 (fun cb => ?_) (fun cb => ?_)
      · walk_at "zz"
        refine k _ _ s1 ?_
        rw [← S66.nb_iff, decide_eq_true_eq]
        unfold S66.NB
        rw [c0]
        have b0 := zb.mp cb
        constructor
        · intro h
          have := mt sa.1.mpr (by omega)
          exact .inl ⟨rfl, b0, Rat.not_lt.mp this⟩
        · rintro (⟨_, _, h⟩ | ⟨h, _⟩)
          · have := mt sa.1.mp (Rat.not_lt.mpr h)
            omega
          · exact absurd h (by decide)
      · walk_at "zz"
        refine k _ _ s1 ?_
        rw [← S66.nb_iff]
        unfold S66.NB
        rw [c0]
        constructor
        · intro h
          cases h
        · rintro (⟨_, h, _⟩ | ⟨h, _⟩)
          · exact absurd (zb.mpr h) cb
          · exact absurd h (by decide)
    · walk_at "zz"
      refine z_d2 (fun cp => ?_) (fun cp => ?_)
      · walk_at "zz"
        refine z_repU bB bB (by omega) ?_
        walk_at "zz"
        refine z_repU (Bits.mul (a := 3) (Bits.small (by decide) (by decide)) bC) bA (by omega) ?_
        walk_at "zz"
        refine k _ _ s1 ?_
        have c0 := sc.2.mp cp
        have e1 : ((B * B : Int) : Rat) = b * b * ((o : Rat) * o) := by
          rw [Rat.intCast_mul, eb]
          grind
        have e2 : ((4 * C * A : Int) : Rat) = 4 * c * a * ((o : Rat) * o) := by
          rw [Rat.intCast_mul, Rat.intCast_mul, ea, ec, show ((4 : Int) : Rat) = 4 from rfl]
          grind
        have oo : (0 : Rat) < (o : Rat) * o := Rat.mul_pos (by exact_mod_cast o0) (by exact_mod_cast o0)
        have lt : 4 * C * A < B * B ↔ 4 * c * a < b * b := by
          rw [← S66.c_lt, e1, e2]
          generalize (o : Rat) * o = w at *
          constructor
          · intro h
            refine Rat.not_le.mp fun z => ?_
            have := Rat.mul_nonneg (show 0 ≤ 4 * c * a - b * b by grind) (Rat.le_of_lt oo)
            grind
          · intro h
            have := Rat.mul_pos (show 0 < b * b - 4 * c * a by grind) oo
            grind
        rw [← S66.nb_iff, decide_eq_true_eq]
        unfold S66.NB
        constructor
        · intro h
          exact .inr ⟨c0, Rat.not_lt.mp (mt lt.mpr (by omega))⟩
        · rintro (⟨h, _⟩ | ⟨_, h⟩)
          · grind
          · have := mt lt.mp (Rat.not_lt.mpr h)
            omega
      · walk_at "zz"
        refine k _ _ s1 ?_
        rw [← S66.nb_iff]
        unfold S66.NB
        constructor
        · intro h
          cases h
        · rintro (⟨h, _⟩ | ⟨h, _⟩)
          · exact absurd (zc.mpr h) cc
          · exact absurd (sc.2.mpr h) cp
  · walk_at "zz"
    refine z_dT (by omega) ?_
    walk_at "zz"
    exact k
theorem c_is_never_belowL (L : Lw K mg) : Cal P w K mg base 2 "is_never_below" (sp1 (fs_nbl K)) [] := by
  obtain ⟨fd, F⟩ := L.d_is_never_below
  exact ⟨⟨_, fd, ["poly"], [], ok_is_never_belowL L F, L.g_is_never_below, F.kp, F.bindsN (fun _ _ _ _ _ _ us hl => match us, hl with | [_], _ => rfl), .nil⟩⟩
theorem ok_SixPaper_shows (L : Lw K mg) {fd : FuncData} (F : FunD K "shows" "SixPaper.shows" (defArgs s_SixPaper_shows) (defBody s_SixPaper_shows) (defScope s_SixPaper_shows) (df_SixPaper_shows.dvs K) (df_SixPaper_shows.kws K) (He.fAd K ("SixPaper", some "shows")) fd) : FnOk P w K mg base (L2N.CX P w) 9 (He.fAd K ("SixPaper", some "shows")) fd (["self", "claim"] : List Str) (sp2 (fs_psh K)) := by
  refine FunD.ok F sc_SixPaper_shows len2 (fun cdv A outer s H vs Q E hr h => ?_)
  obtain ⟨a, b, rfl, h⟩ := h
  refine ⟨_, (pss_cons (ps_if (pt_not (pt_val (pe_callB (callK rIsi (K := K) rfl call_isi) (by rfl) L.f_isinstance (by decide +kernel) (pa_cons (pv 1) (pa_cons (pe_cls L.g_SixClaim) pa_nil))))) (pss_one (ps_ret pe_bl)) pss_nil)
    (pss_cons (ps_if (PW.pt (pw_or (pt_cmpR o_ge (pe_fld (pv 0) rfl) (pe_fld (pv 1) rfl) (nomark _)) (pw_or1 (pt_cmpR o_lt (pe_mt0 (c_Ratio_sign (K := K) L) hr (by decide) (L2N.takes_of rfl rfl rfl rfl) (pe_fld (pv 0) rfl)) pe_int (nomark _))))) (pss_one (ps_ret pe_bl)) pss_nil)
    (pss_cons (ps_if (pt_not (pt_val (pe_c (c_is_never_belowL (K := K) L) hr (by decide) (L2N.takes_of rfl rfl rfl rfl) (pa_cons (pe_fld (pv 0) rfl) pa_nil)))) (pss_one (ps_ret pe_bl)) pss_nil)
    (pss_one (ps_ret (pe_cmpR (op_ownEqB (c_PolyD_eqD (K := K) L) hr (by decide) passF) (pe_mt0 (c_SixClaim_quadratic (K := K) L) hr (by decide) (L2N.takes_of rfl rfl rfl rfl) (pv 1)) (pe_op (op_or2 o_cat (op_own (by rfl) L.sf_Poly (c_PolyD_addD (K := K) L) hr (by decide) passF)) (pe_fld (pv 0) rfl) (pe_mt (c_Poly_scaled (K := K) L) hr (by decide) (L2N.takes_of rfl rfl rfl rfl) (pe_c (c_block_poly (K := K) L) hr (by decide) (L2N.takes_of rfl rfl rfl rfl) (pa_cons (pe_fld (pv 0) rfl) (pa_cons (pe_fld (pv 1) rfl) pa_nil))) (pa_cons (pe_fld (pv 0) rfl) pa_nil))) (nomark _))))))), ?_⟩
  obtain ⟨s, cl, due, rfl, rfl, h, q⟩ := h
  rcases h with ⟨k, n, w, v, a, b, c, A, x, y, z, B, ⟨dx, hs⟩, hA, hq, hsc, k0, k1, n0, n1, B1, B2, hdue⟩ | ⟨k, w, v, dy, C, fs, ⟨dx, hs⟩, hC, hc, rfl⟩ | ⟨k, n, w, v, a, b, c, A, B, ls, o, ⟨dx, hs⟩, hA, hI, l3, l4, hsc, kn, A1, rfl⟩
  · obtain ⟨dy, t, hc, h3⟩ := id hsc
    walk_at "zz"
    refine z_isN L.in_SixClaim L.kt_SixClaim_SixClaim hc ?_
    walk_at "zz"
    have no : ¬ Shw k n a b c A x y z → due = false := fun h => by
      cases due with
      | false => rfl
      | true => exact absurd (hdue.mp rfl) h
    refine z_d2 (fun c1 => ?_) (fun c1 => ?_)
    · walk_at "zz"
      have e := no fun h => by
        have := h.1
        omega
      subst e
      exact q _ (fun _ _ h => h)
    walk_at "zz"
    refine u_sgn hA ?_
    walk_at "zz"
    refine z_d2 (fun c2 => ?_) (fun c2 => ?_)
    · walk_at "zz"
      have e := no fun h => cmp_ge h.2.1 c2
      subst e
      exact q _ (fun _ _ h => h)
    walk_at "zz"
    refine ⟨_, rfl, .inl ⟨v, x, y, z, 300, rfl, hq, by decide, fun r H1 s1 er => ?_⟩⟩
    walk_at "zz"
    refine z_b2 (fun rt => ?_) (fun rf => ?_)
    · subst rt
      walk_at "zz"
      refine ⟨_, rfl, cl, n, a, b, c, B, rfl, hsc.mono s1, B1, by omega, fun z1 H2 s2 hz => ?_⟩
      walk_at "zz"
      refine ⟨_, _, rfl, k, n, rfl, rfl, k0, by omega, by omega, n1, fun z2 H3 s3 h6 h6' => ?_⟩
      have hb := bp_one h6 h6'
      refine u_mtQP hb ?_
      walk_at "zz"
      refine ⟨_, _, rfl, z2, w, _, _, _, 18, A, 40, rfl, rfl, hb, ((hA.mono s1).mono s2).mono s3, by decide, by decide, fun z4 H4 s4 h7 => ?_⟩
      refine u_paddO ((((hq.mono s1).mono s2).mono s3).mono s4) h7 (by decide) (fun z5 H5 s5 h8 => ?_)
      have h9 := h8.cast (a' := x + bA k n * A) (b' := y + bB k n * A) (c' := z + bC k * A) (by grind) (by grind) (by grind)
      refine u_eqB (((hz.mono s3).mono s4).mono s5) h9 (fun t e => ?_)
      have ed : due = t := by
        have h : due = true ↔ t = true := by
          rw [hdue, e]
          constructor
          · intro h
            exact h.2.2.2
          · intro h
            refine ⟨by omega, ?_, er.mp rfl, h⟩
            refine Rat.not_lt.mp fun g => c2 ?_
            unfold cmpQ
            rw [if_pos g]
            decide
        cases due <;> cases t <;> simp_all
      rw [← ed]
      exact q _ ((((s1.trans s2).trans s3).trans s4).trans s5)
    · subst rf
      walk_at "zz"
      have e := no fun h => Bool.false_ne_true (er.mpr h.2.2.1)
      subst e
      exact q _ s1
  · walk_at "zz"
    rcases hC with rfl | rfl
    · refine z_isN L.in_LineClaim L.kt_LineClaim_SixClaim hc ?_
      walk_at "zz"
      exact q _ (fun _ _ h => h)
    · refine z_isN L.in_FourClaim L.kt_FourClaim_SixClaim hc ?_
      walk_at "zz"
      exact q _ (fun _ _ h => h)
  · obtain ⟨dy, t, hc, h3⟩ := id hsc
    walk_at "zz"
    refine z_isN L.in_SixClaim L.kt_SixClaim_SixClaim hc ?_
    walk_at "zz"
    refine z_dF (by omega) ?_
    walk_at "zz"
    refine u_sgn hA ?_
    walk_at "zz"
    refine z_dF (cmp_ge A1) ?_
    walk_at "zz"
    refine ⟨_, rfl, .inr ⟨v, ls, o, rfl, hI, l3, ?_⟩⟩
    walk_at "zz"
    exact q _ (fun _ _ h => h)
theorem c_SixPaper_shows (L : Lw K mg) : Met P w K mg base 9 (He.ga K "SixPaper") "shows" (sp2 (fs_psh K)) [] := by
  obtain ⟨fd, F⟩ := L.d_SixPaper_shows
  exact ⟨⟨_, fd, ["self", "claim"], [], L.cl_SixPaper, L.me_SixPaper_shows, ok_SixPaper_shows L F, F.bindsN (fun _ _ _ _ _ _ us hl => match us, hl with | [_, _], _ => rfl), .nil⟩⟩
theorem ok_CutPaper_shows (L : Lw K mg) {fd : FuncData} (F : FunD K "shows" "CutPaper.shows" (defArgs s_CutPaper_shows) (defBody s_CutPaper_shows) (defScope s_CutPaper_shows) (df_CutPaper_shows.dvs K) (df_CutPaper_shows.kws K) (He.fAd K ("CutPaper", some "shows")) fd) : FnOk P w K mg base (L2N.CX P w) 1 (He.fAd K ("CutPaper", some "shows")) fd (["self", "claim"] : List Str) (sp2 (fs_csh K)) := by
  refine FunD.ok F sc_CutPaper_shows len2 (fun cdv A outer s H vs Q E hr h => ?_)
  obtain ⟨a, b, rfl, h⟩ := h
  refine ⟨_, (pss_cons (ps_if (PW.pt (pw_or (pt_not (pt_val (pe_callB (callK rIsi (K := K) rfl call_isi) (by rfl) L.f_isinstance (by decide +kernel) (pa_cons (pv 1) (pa_cons (pe_cls L.g_LineClaim) pa_nil))))) (pw_or1 (pt_not (pt_cmpR op_eq (pe_op o_rep (pe_op o_rep (pe_fld (pv 0) rfl) (pe_fld (pv 0) rfl)) (pe_fld (pv 0) rfl)) (pe_fld (pv 1) rfl) (nomark _)))))) (pss_one (ps_ret pe_bl)) pss_nil)
    (pss_cons ps_never
    (pss_cons ps_never
    (pss_cons ps_never
    (pss_one ps_never))))), ?_⟩
  obtain ⟨s, cl, due, rfl, rfl, ⟨n, a, b, c, B, dx, fs, hs, hsc, hf, rfl⟩, q⟩ := h
  obtain ⟨dy, t, hc, h3⟩ := id hsc
  walk_at "zz"
  refine z_isN L.in_SixClaim L.kt_SixClaim_LineClaim hc ?_
  walk_at "zz"
  exact q _ (fun _ _ h => h)
theorem c_CutPaper_shows (L : Lw K mg) : Met P w K mg base 1 (He.ga K "CutPaper") "shows" (sp2 (fs_csh K)) [] := by
  obtain ⟨fd, F⟩ := L.d_CutPaper_shows
  exact ⟨⟨_, fd, ["self", "claim"], [], L.cl_CutPaper, L.me_CutPaper_shows, ok_CutPaper_shows L F, F.bindsN (fun _ _ _ _ _ _ us hl => match us, hl with | [_, _], _ => rfl), .nil⟩⟩
theorem ok_judge (L : Lw K mg) {fd : FuncData} (F : FunD K "judge" "judge" (defArgs s_judge) (defBody s_judge) (defScope s_judge) (df_judge.dvs K) (df_judge.kws K) (He.fAd K ("judge", none)) fd) : FnOk P w K mg base (L2N.CX P w) 10 (He.fAd K ("judge", none)) fd (["claim", "answer"] : List Str) (sp2 (fs_judge K)) := by
  refine FunD.ok F sc_judge len2 (fun cdv A outer s H vs Q E hr h => ?_)
  obtain ⟨a, b, rfl, h⟩ := h
  refine ⟨_, (pss_one (ps_ret (pe_orE (pe_mt (c_SixPaper_shows (K := K) L) hr (by decide) (L2N.takes_of rfl rfl rfl rfl) (pv 1) (pa_cons (pv 0) pa_nil)) (pe_mt (c_CutPaper_shows (K := K) L) hr (by decide) (L2N.takes_of rfl rfl rfl rfl) (pv 1) (pa_cons (pv 0) pa_nil))))), ?_⟩
  obtain ⟨s, cl, due, rfl, rfl, h, q⟩ := h
  rcases h with h | h
  · have hi : ∃ dx fs, H s = some (.ins (He.ga K "SixPaper") dx fs) ∧ fs.lookup ("shows" : Str) = none := by
      rcases h with h | h | h
      · obtain ⟨_, _, _, _, _, _, _, _, _, _, _, _, ⟨dx, hs⟩, _⟩ := h
        exact ⟨dx, _, hs, rfl⟩
      · obtain ⟨_, _, _, _, _, _, ⟨dx, hs⟩, _⟩ := h
        exact ⟨dx, _, hs, rfl⟩
      · obtain ⟨_, _, _, _, _, _, _, _, _, _, _, ⟨dx, hs⟩, _⟩ := h
        exact ⟨dx, _, hs, rfl⟩
    obtain ⟨dx, fs, hs, hf⟩ := hi
    walk_at "zz"
    refine z_orL ?_
    walk_at "zz"
    refine ⟨s, dx, _, rfl, hs, hf, ?_⟩
    walk_at "zz"
    exact ⟨_, _, rfl, s, cl, due, rfl, rfl, h, q⟩
  · obtain ⟨n, a, b, c, B, dx, fs, hs, hsc, hf, e⟩ := id h
    walk_at "zz"
    refine z_orR ?_
    walk_at "zz"
    refine ⟨s, dx, _, rfl, hs, hf, ?_⟩
    walk_at "zz"
    exact ⟨_, _, rfl, s, cl, due, rfl, rfl, h, q⟩
theorem c_judge (L : Lw K mg) : Cal P w K mg base 10 "judge" (sp2 (fs_judge K)) [] := by
  obtain ⟨fd, F⟩ := L.d_judge
  exact ⟨⟨_, fd, ["claim", "answer"], [], ok_judge L F, L.g_judge, F.kp, F.bindsN (fun _ _ _ _ _ _ us hl => match us, hl with | [_, _], _ => rfl), .nil⟩⟩
end
end T
set_option maxHeartbeats 4000000
namespace T
open PySem PySem.Spec PyProof.Rows L2 Z
open S31 (cf)
open S30
def L3 (H : Hp) (l : Addr) (A B C : Int) (N : Nat) : Prop := H l = some (.lst [.int A, .int B, .int C]) ∧ Bits N A ∧ Bits N B ∧ Bits N C
theorem L3.mono {H H' : Hp} {l : Addr} {A B C : Int} {N : Nat} (e : Same H H') (h : L3 H l A B C N) : L3 H' l A B C N := ⟨e _ _ h.1, h.2⟩
/-- a list that begins with three numbers (three or four in all) -/
def L34 (H : Hp) (l : Addr) (A B C : Int) (N : Nat) : Prop := (H l = some (.lst [.int A, .int B, .int C]) ∨ ∃ D, H l = some (.lst [.int A, .int B, .int C, .int D])) ∧ Bits N A ∧ Bits N B ∧ Bits N C
theorem L34.mono {H H' : Hp} {l : Addr} {A B C : Int} {N : Nat} (e : Same H H') (h : L34 H l A B C N) : L34 H' l A B C N := by
  obtain ⟨h1 | ⟨D, h1⟩, h2⟩ := h
  · exact ⟨.inl (e _ _ h1), h2⟩
  · exact ⟨.inr ⟨D, e _ _ h1⟩, h2⟩
def fs_va : F2 := fun x y H Q _ => ∃ (l : Addr) (A B C : Int) (N : Nat) (k : Int) (M : Nat), x = .ref l ∧ y = .int k ∧ L34 H l A B C N ∧ Bits M k ∧ N ≤ 3000 ∧ M ≤ 3000 ∧ Q (.int (S66.qv A B C k)) H
theorem u_va4 {H : Hp} {Q : VK} {E : XK} {l : Addr} {A B C : Int} {N : Nat} {k : Int} {M : Nat} (h : L34 H l A B C N) (hk : Bits M k) (hN : N ≤ 3000) (hM : M ≤ 3000) (q : Q (.int (S66.qv A B C k)) H) : sp2 fs_va [.ref l, .int k] H Q E := ⟨_, _, rfl, l, A, B, C, N, k, M, rfl, rfl, h, hk, hN, hM, q⟩
theorem small8 {n : Int} (h1 : -256 < n) (h2 : n < 256) : Bits 8 n := Bits.small (n := 8) (by show -(256 : Int) < n; exact h1) (by show n < (256 : Int); exact h2)
def zLcR2 (g : TG) (tt : TT) (te : TE) (vs : List Nat) (σ : L2.St) (xs : List V) (H1 : Hp) (Q : VK) : Prop := ∃ i j : Int, xs = [.int i, .int j] ∧ (-(2 ^ 62) ≤ i ∧ i < 2 ^ 62 ∧ -(2 ^ 62) ≤ j ∧ j < 2 ^ 62) ∧ zLc (Itr i (j - i).toNat) g tt te vs σ H1 Q
theorem z_lcR2S {g : TG} {tt : TT} {te : TE} {t : TA} {vs : List Nat} {σ : L2.St} {H1 : Hp} {Q : VK} (q : t σ H1 fun xs H2 => zLcR2 g tt te vs σ xs H2 Q) : tLc (iRng2 t) g tt te vs σ H1 Q := q
theorem z_lcR2 {i j : Int} {m : Nat} {s : Nat} {te : TE} {σ : L2.St} {H1 : Hp} {Q : VK} (f : Nat → V) {vs : List Nat} (h : -1000000 ≤ i ∧ i < 1000000 ∧ -1000000 ≤ j ∧ j < 1000000) (hm : (j - i).toNat = m)
    (hs : ∀ (k : Nat) H (N : VK), k < m → Same H1 H → (∀ H4, Same H H4 → N (f k) H4) → wipe ((wipe σ vs).set s (some (.int (i + k)))) vs = wipe σ vs ∧ te ((wipe σ vs).set s (some (.int (i + k)))) H N)
    (k : ∀ D H', H1 D = none → Same H1 H' → H' D = some (.lst ((List.range m).map f)) → Q (.ref D) H') : zLcR2 (gName s) tYes te vs σ [.int i, .int j] H1 Q := by
  refine ⟨i, j, rfl, by omega, ?_⟩
  rw [hm]
  refine z_lcF (walk_range (lo := i) (n := m)) f (by omega) (fun _ _ => trivial) (fun k x H H' N hk s y c => ?_) k
  obtain ⟨rfl, rfl⟩ := y
  exact hs k H' N hk s c
def fs_cell : F2 := fun a b H Q _ => ∃ (p : Addr) (k : Int), a = .ref p ∧ b = .int k ∧ IsPool H p ∧ 0 ≤ k ∧ ∀ c, Q (.int c) H
theorem u_cell {H : Hp} {Q : VK} {E : XK} {p : Addr} {k : Int} (h : IsPool H p) (h0 : 0 ≤ k) (q : ∀ c, Q (.int c) H) : sp2 fs_cell [.ref p, .int k] H Q E := ⟨_, _, rfl, p, k, rfl, rfl, h, h0, q⟩
def fs_draw : F4 := fun a b c d H Q _ => ∃ (p : Addr) (k s m : Int), a = .ref p ∧ b = .int k ∧ c = .int s ∧ d = .int m ∧ IsPool H p ∧ 0 ≤ k ∧ 0 < s ∧ s < 1000 ∧ 0 < m ∧ ∀ r, 0 ≤ r → r < m → Q (.int r) H
theorem u_draw {H : Hp} {Q : VK} {E : XK} {p : Addr} {k s m : Int} (h : IsPool H p) (h0 : 0 ≤ k) (h1 : 0 < s) (h2 : s < 1000) (h3 : 0 < m) (q : ∀ r, 0 ≤ r → r < m → Q (.int r) H) : sp4 fs_draw [.ref p, .int k, .int s, .int m] H Q E := ⟨_, _, _, _, rfl, p, k, s, m, rfl, rfl, rfl, rfl, h, h0, h1, h2, h3, q⟩
theorem z_p40 {H : Hp} {Q : VK} (q : Q (.int 10000000000000000000000000000000000000000) H) : zPow (.int 10) (.int 40) H Q := z_pow ⟨by decide, by decide, by decide⟩ q
def fs_whole1 : F1 := fun x H Q _ => ∃ i : Int, x = .int i ∧ Q (.bl true) H
theorem u_whole1 {H : Hp} {Q : VK} {E : XK} {i : Int} (q : Q (.bl true) H) : sp1 fs_whole1 [.int i] H Q E := ⟨_, rfl, i, rfl, q⟩
def fs_flag : F2 := fun x y H Q _ => ∃ b : Bool, x = .bl b ∧ y = .bl b ∧ Q (.bl true) H
theorem z_eqB {b : Bool} {H : Hp} {Q : VK} (q : Q (.bl true) H) : rEq (.bl b) (.bl b) H Q := ⟨rfl, by rw [decide_eq_true rfl]; exact q⟩
theorem z_isB {K : Frag} {b : Bool} {H : Hp} {Q : VK} (q : Q (.bl true) H) : rIsi K [.bl b, .ty "bool"] H Q := z_isiB (by decide +kernel) q
def fs_lets : F1 := fun x H Q _ => ∃ p : Addr, x = .ref p ∧ IsPool H p ∧ ∀ n, 2 ≤ n → n ≤ 200 → Q (.int n) H
def fs_lh : F2 := fun x y H Q _ => ∃ (n : Int) (l : Addr) (A B C : Int) (N : Nat), x = .int n ∧ y = .ref l ∧ L34 H l A B C N ∧ N ≤ 1000 ∧ 1 ≤ n ∧ n ≤ 200 ∧ ∀ r H', Same H H' → (r = true ↔ ∀ k, 1 ≤ k → k ≤ n → 0 ≤ S66.qv A B C k) → Q (.bl r) H'
theorem all_iff {n : Int} {p : Int → Prop} [DecidablePred p] (n1 : 1 ≤ n) : ((List.range n.toNat).map fun (j : Nat) => decide (p (1 + (j : Int)))).all id = true ↔ ∀ k, 1 ≤ k → k ≤ n → p k := by
  rw [List.all_eq_true]
  constructor
  · intro h k k1 k2
    have := h (decide (p k)) (List.mem_map.mpr ⟨(k - 1).toNat, List.mem_range.mpr (by omega), by rw [show (1 : Int) + ((k - 1).toNat : Int) = k by omega]⟩)
    exact of_decide_eq_true this
  · intro h x hx
    obtain ⟨j, hj, rfl⟩ := List.mem_map.mp hx
    rw [List.mem_range] at hj
    exact decide_eq_true (h _ (by omega) (by omega))
local macro_rules | `(tactic| walk_at "up") => `(tactic| first
  | assumption
  | (refine' IsR.mono (by assumption) ?zup; case zup => walk_at "up")
  | (refine' IsE.mono (by assumption) ?zup; case zup => walk_at "up")
  | (refine' Same.at (by assumption) ?zup; case zup => walk_at "up")
  | (refine' SqL.of ?zup; case zup => walk_at "up")
  | (refine' L2.Same.seq (by assumption) ?zup; case zup => walk_at "up"))
local macro_rules | `(tactic| walk_at "z") => `(tactic| first
  | ((with_reducible refine' z_var ?zvh ?_); (case zvh => exact rfl))
  | with_reducible refine z_c ?_
  | with_reducible refine z_cons ?_
  | with_reducible refine z_nil ?_
  | with_reducible refine z_op ?_
  | with_reducible refine z_nx ?_
  | with_reducible refine z_seq ?_
  | with_reducible refine z_asg ?_
  | with_reducible refine z_asgG ?_
  | with_reducible refine z_call ?_
  | with_reducible refine z_sq0 ?_
  | with_reducible refine z_sq1 ?_
  | with_reducible refine z_ifS ?_
  | with_reducible refine z_test ?_
  | with_reducible refine z_tb ?_
  | with_reducible refine z_bl ?_
  | with_reducible refine z_blI ?_
  | with_reducible refine z_ret ?_
  | with_reducible refine z_rt ?_
  | with_reducible refine z_T ?_
  | with_reducible refine z_F ?_
  | with_reducible refine z_add ?_
  | with_reducible refine z_sub ?_
  | with_reducible refine z_neg ?_
  | with_reducible refine z_un ?_
  | with_reducible refine z_eqI ?_
  | with_reducible refine z_neI ?_
  | with_reducible refine z_lt ?_
  | with_reducible refine z_le ?_
  | with_reducible refine z_gt ?_
  | with_reducible refine z_ge ?_
  | with_reducible refine z_not ?_
  | with_reducible refine z_and ?_
  | with_reducible refine z_or ?_
  | with_reducible refine z_andV ?_
  | with_reducible refine z_orV ?_
  | with_reducible refine z_notV ?_
  | with_reducible refine z_if ?_
  | with_reducible refine z_cb ?_
  | with_reducible refine z_int1 ?_
  | with_reducible refine z_intb ?_
  | with_reducible refine z_abs ?_
  | with_reducible refine z_gcd ?_
  | with_reducible refine z_isi_ii ?_
  | with_reducible refine z_isi_ib ?_
  | with_reducible refine z_next ?_
  | with_reducible refine z_drop ?_
  | with_reducible refine z_par ?_
  | with_reducible refine z_par2 ?_
  | with_reducible refine z_tupN ?_
  | with_reducible refine z_lstN ?_
  | ((with_reducible refine' z_nt ?zl1 ?_); (case zl1 => exact Nat.le_of_ble_eq_true rfl); intro p H' hp hs he)
  | ((with_reducible refine' z_gtup ?zl1 ?zl2 ?_); (case zl1 => walk_at "up"); (case zl2 => exact rfl))
  | with_reducible refine z_bk ?_
  | with_reducible refine z_ct ?_
  | with_reducible refine z_break ?_
  | with_reducible refine z_cont ?_
  | with_reducible refine z_retN ?_
  | with_reducible refine z_nn ?_
  | with_reducible refine z_mk ?_
  | with_reducible refine z_gn ?_
  | with_reducible refine z_gcons ?_
  | with_reducible refine z_gnil ?_
  | with_reducible refine z_mt ?_
  | with_reducible refine z_mko ?_
  | with_reducible refine z_for2 ?_
  | with_reducible refine z_ownI ?_
  | ((with_reducible refine' z_lenL ?zl1 ?_); (case zl1 => walk_at "up"))
  | ((with_reducible refine' z_ixT ?zl1 ?zl2 ?_); (case zl1 => walk_at "up"); (case zl2 => exact rfl))
  | ((with_reducible refine' z_mulL ?zl1 ?zl2 ?_); (case zl1 => omega); (case zl2 => omega))
  | ((with_reducible refine' z_mulR ?zl1 ?zl2 ?_); (case zl1 => omega); (case zl2 => omega))
  | ((with_reducible refine' z_divS ?zl1 ?zl2 ?_); (case zl1 => omega); (case zl2 => omega))
  | ((with_reducible refine' z_mulW ?zl1 ?zl2 ?zl3 ?zl4 ?_); (case zl1 => omega); (case zl2 => omega); (case zl3 => omega); (case zl4 => omega))
  | ((with_reducible refine' z_divW ?zl1 ?zl2 ?_); (case zl1 => omega); (case zl2 => omega)))
local macro_rules | `(tactic| walk_at "zz") => `(tactic| repeat (walk_at "z"))
local macro_rules | `(tactic| walk_at "z") => `(tactic| with_reducible refine z_lstN ?_)
local macro_rules | `(tactic| walk_at "z") => `(tactic| with_reducible refine z_p6 ?_)
local macro_rules | `(tactic| walk_at "z") => `(tactic| with_reducible refine z_p12 ?_)
local macro_rules | `(tactic| walk_at "z") => `(tactic| with_reducible refine z_p13 ?_)
local macro_rules | `(tactic| walk_at "z") => `(tactic| with_reducible refine z_calln ?_)
local macro_rules | `(tactic| walk_at "z") => `(tactic| with_reducible refine z_xfS ?_)
local macro_rules | `(tactic| walk_at "z") => `(tactic| with_reducible refine z_lcS ?_)
local macro_rules | `(tactic| walk_at "z") => `(tactic| with_reducible refine z_lcRS ?_)
local macro_rules | `(tactic| walk_at "z") => `(tactic| with_reducible refine z_lcZS ?_)
local macro_rules | `(tactic| walk_at "z") => `(tactic| with_reducible refine z_foS ?_)
local macro_rules | `(tactic| walk_at "z") => `(tactic| with_reducible refine z_for1 ?_)
local macro_rules | `(tactic| walk_at "z") => `(tactic| with_reducible refine z_tsl ?_)
local macro_rules | `(tactic| walk_at "z") => `(tactic| with_reducible refine z_np ?_)
local macro_rules | `(tactic| walk_at "z") => `(tactic| with_reducible refine z_pt ?_)
local macro_rules | `(tactic| walk_at "z") => `(tactic| with_reducible refine z_pti ?_)
local macro_rules | `(tactic| walk_at "z") => `(tactic| with_reducible refine z_catI ?_)
local macro_rules | `(tactic| walk_at "z") => `(tactic| with_reducible refine z_isNI ?_)
local macro_rules | `(tactic| walk_at "z") => `(tactic| with_reducible refine z_isNN ?_)
local macro_rules | `(tactic| walk_at "z") => `(tactic| with_reducible refine z_notNI ?_)
local macro_rules | `(tactic| walk_at "z") => `(tactic| with_reducible refine z_notNN ?_)
local macro_rules | `(tactic| walk_at "z") => `(tactic| with_reducible refine z_gsub ?_)
local macro_rules | `(tactic| walk_at "z") => `(tactic| with_reducible refine z_isNb ?_)
local macro_rules | `(tactic| walk_at "z") => `(tactic| with_reducible refine z_notNb ?_)
local macro_rules | `(tactic| walk_at "z") => `(tactic| ((with_reducible refine' z_nlR ?zl1 ?_); (case zl1 => exact Nat.le_of_ble_eq_true rfl); intro p H' hp hs he))
local macro_rules | `(tactic| walk_at "z") => `(tactic| ((with_reducible refine' z_repR ?zl1 ?zl2 ?_); (case zl1 => omega); (case zl2 => omega)))
local macro_rules | `(tactic| walk_at "z") => `(tactic| ((with_reducible refine' z_repL ?zl1 ?zl2 ?_); (case zl1 => omega); (case zl2 => omega)))
local macro_rules | `(tactic| walk_at "z") => `(tactic| ((with_reducible refine' z_lenLst ?zl1 ?_); (case zl1 => walk_at "up")))
local macro_rules | `(tactic| walk_at "z") => `(tactic| ((with_reducible refine' z_cat ?zl1 ?zl2 ?zl3 ?_); (case zl1 => walk_at "up"); (case zl2 => walk_at "up"); (case zl3 => (simp only [List.length_map, List.length_cons, List.length_nil, List.length_append, List.length_replicate]; omega)); intro p H' hp hs he))
local macro_rules | `(tactic| walk_at "z") => `(tactic| with_reducible refine z_sfl ?_)
local macro_rules | `(tactic| walk_at "z") => `(tactic| with_reducible refine z_lcES ?_)
local macro_rules | `(tactic| walk_at "z") => `(tactic| with_reducible refine z_lcMS ?_)
local macro_rules | `(tactic| walk_at "z") => `(tactic| with_reducible refine z_foES ?_)
local macro_rules | `(tactic| walk_at "z") => `(tactic| with_reducible refine z_fo3S ?_)
local macro_rules | `(tactic| walk_at "z") => `(tactic| with_reducible refine z_sta ?_)
local macro_rules | `(tactic| walk_at "z") => `(tactic| with_reducible refine z_sta1 ?_)
local macro_rules | `(tactic| walk_at "z") => `(tactic| with_reducible refine z_lcTS ?_)
local macro_rules | `(tactic| walk_at "z") => `(tactic| with_reducible refine z_foTS ?_)
local macro_rules | `(tactic| walk_at "z") => `(tactic| with_reducible refine z_revTS ?_)
local macro_rules | `(tactic| walk_at "z") => `(tactic| with_reducible refine z_max2 ?_)
local macro_rules | `(tactic| walk_at "z") => `(tactic| with_reducible refine z_fldS ?_)
local macro_rules | `(tactic| walk_at "z") => `(tactic| ((with_reducible refine' z_fdt ?zc1 ?zc2 ?zl2 ?_); (case zc1 => exact Lw.cl_Ratio (by assumption)); (case zc2 => exact Lw.na_Ratio_top (by assumption)); (case zl2 => walk_at "up")))
local macro_rules | `(tactic| walk_at "z") => `(tactic| ((with_reducible refine' z_fdb ?zc1 ?zc2 ?zl2 ?_); (case zc1 => exact Lw.cl_Ratio (by assumption)); (case zc2 => exact Lw.na_Ratio_bottom (by assumption)); (case zl2 => walk_at "up")))
local macro_rules | `(tactic| walk_at "z") => `(tactic| ((with_reducible refine' z_fldt ?zc1 ?zc2 ?zl1 ?zl2 ?_); (case zc1 => exact Lw.cl_Ratio (by assumption)); (case zc2 => exact Lw.na_Ratio_top (by assumption)); (case zl1 => exact rfl); (case zl2 => walk_at "up")))
local macro_rules | `(tactic| walk_at "z") => `(tactic| ((with_reducible refine' z_fldb ?zc1 ?zc2 ?zl1 ?zl2 ?_); (case zc1 => exact Lw.cl_Ratio (by assumption)); (case zc2 => exact Lw.na_Ratio_bottom (by assumption)); (case zl1 => exact rfl); (case zl2 => walk_at "up")))
local macro_rules | `(tactic| walk_at "z") => `(tactic| ((with_reducible refine' z_fldG ?zc1 ?zc2 ?zl0 ?zl1 ?zl2 ?_); (case zc1 => exact Lw.cl_Poly (by assumption)); (case zc2 => exact Lw.na_Poly_numbers (by assumption)); (case zl0 => exact rfl); (case zl1 => walk_at "up"); (case zl2 => exact lkA)))
local macro_rules | `(tactic| walk_at "z") => `(tactic| ((with_reducible refine' z_fldG ?zc1 ?zc2 ?zl0 ?zl1 ?zl2 ?_); (case zc1 => exact Lw.cl_Poly (by assumption)); (case zc2 => exact Lw.na_Poly_over (by assumption)); (case zl0 => exact rfl); (case zl1 => walk_at "up"); (case zl2 => exact lkO)))
local macro_rules | `(tactic| walk_at "z") => `(tactic| ((with_reducible refine' z_fldG ?zc1 ?zc2 ?zl0 ?zl1 ?zl2 ?_); (case zc1 => exact Lw.cl_Poly (by assumption)); (case zc2 => exact Lw.na_Poly_degree (by assumption)); (case zl0 => exact rfl); (case zl1 => walk_at "up"); (case zl2 => exact lkD)))
local macro_rules | `(tactic| walk_at "z") => `(tactic| ((with_reducible refine' z_glst ?zl1 ?zl2 ?_); (case zl1 => walk_at "up"); (case zl2 => exact rfl)))
local macro_rules | `(tactic| walk_at "z") => `(tactic| ((with_reducible refine' z_ixLst ?zl1 ?zl2 ?_); (case zl1 => walk_at "up"); (case zl2 => exact rfl)))
local macro_rules | `(tactic| walk_at "z") => `(tactic| ((with_reducible refine' u_mtV ?zl1 ?_); (case zl1 => walk_at "up")))
local macro_rules | `(tactic| walk_at "z") => `(tactic| ((with_reducible refine' u_mtQP ?zl1 ?_); (case zl1 => walk_at "up")))
local macro_rules | `(tactic| walk_at "z") => `(tactic| ((with_reducible refine' z_fldG ?zc1 ?zc2 ?zl0 ?zl1 ?zl2 ?_); (case zc1 => exact Lw.cl_SixClaim (by assumption)); (case zc2 => exact Lw.na_SixClaim_letters (by assumption)); (case zl0 => exact rfl); (case zl1 => walk_at "up"); (case zl2 => exact lkA)))
local macro_rules | `(tactic| walk_at "z") => `(tactic| ((with_reducible refine' z_fldG ?zc1 ?zc2 ?zl0 ?zl1 ?zl2 ?_); (case zc1 => exact Lw.cl_SixClaim (by assumption)); (case zc2 => exact Lw.na_SixClaim_numbers (by assumption)); (case zl0 => exact rfl); (case zl1 => walk_at "up"); (case zl2 => exact (lkB (by decide +kernel) lkA))))
local macro_rules | `(tactic| walk_at "z") => `(tactic| with_reducible refine z_lcR2S ?_)
local macro_rules | `(tactic| walk_at "z") => `(tactic| ((with_reducible refine' u_draw ?zl1 ?zl2 ?zl3 ?zl4 ?zl5 ?_); (case zl1 => walk_at "up"); (case zl2 => omega); (case zl3 => omega); (case zl4 => omega); (case zl5 => omega); intro r r0 r1))
local macro_rules | `(tactic| walk_at "z") => `(tactic| ((with_reducible refine' u_cell ?zl1 ?zl2 ?_); (case zl1 => walk_at "up"); (case zl2 => omega); intro c))
local macro_rules | `(tactic| walk_at "z") => `(tactic| with_reducible refine z_p40 ?_)
theorem same64c {H H1 H2 : Hp} (h : Same H1 H2) (e : Same H H1) : Same H H2 := e.trans h
local macro_rules | `(tactic| walk_at "sm") => `(tactic| first
  | assumption
  | exact fun _ _ h => h
  | (refine' same64c (by assumption) ?zsm; case zsm => walk_at "sm"))
local macro_rules | `(tactic| walk_at "up") => `(tactic| first
  | assumption
  | (with_reducible refine' IsR.mono (by assumption) ?zup; case zup => walk_at "up")
  | (with_reducible refine' IsV.mono (by assumption) ?zup; case zup => walk_at "up")
  | (with_reducible refine' IsQ.mono (by assumption) ?zup; case zup => walk_at "up")
  | (with_reducible refine' QP.mono (by assumption) ?zup; case zup => walk_at "up")
  | (with_reducible refine' R3.mono (by assumption) ?zup; case zup => walk_at "up")
  | (with_reducible refine' Same.at (by assumption) ?zup; case zup => walk_at "up")
  | (with_reducible refine' IsSC.mono (by assumption) ?zup; case zup => walk_at "up")
  | (with_reducible refine' L3.mono (by assumption) ?zup; case zup => walk_at "up")
  | (with_reducible refine' IsPool.mono (by assumption) ?zup; case zup => walk_at "up")
  | (refine' And.left ?zup; case zup => assumption)
  | fail)
section
variable {P : Program} {w : World} {K : Frag} {mg : Str → Option Value} {base : Heap}
theorem ok_law_cell (L : Lw K mg) {fd : FuncData} (F : FunD K "_law_cell" "_law_cell" (defArgs s_law_cell) (defBody s_law_cell) (defScope s_law_cell) (df_law_cell.dvs K) (df_law_cell.kws K) (He.fAd K ("_law_cell", none)) fd) : FnOk P w K mg base (L2N.CX P w) 1 (He.fAd K ("_law_cell", none)) fd (["cells", "k"] : List Str) (sp2 fs_cell) := by
  refine FunD.ok F sc_law_cell len2 (fun cdv A outer s H vs Q E hr h => ?_)
  obtain ⟨a, b, rfl, h⟩ := h
  refine ⟨_, (pss_cons (ps_if (pt_cmpR o_lt (pv 1) (pe_callB (callK rLen1 (K := K) rfl o_len) (by rfl) L.f_len (by decide +kernel) (pa_cons (pv 0) pa_nil)) (nomark _)) (pss_one (ps_ret (pe_callTy o_int1 (by rfl) L.f_int (by decide +kernel) (pa_cons (pe_ix (ix_seqK (K := K) rfl) (pv 0) (pv 1) (fun _ _ => rfl)) pa_nil)))) pss_nil)
    (pss_one (ps_ret pe_int))), ?_⟩
  obtain ⟨p, k, rfl, rfl, ⟨ns, hp⟩, h0, q⟩ := h
  walk_at "zz"
  refine z_d2 (fun c => ?_) (fun c => ?_)
  · walk_at "zz"
    refine z_ixL (SqL.of hp) (cell_at h0 c) ?_
    walk_at "zz"
    exact q _
  · walk_at "zz"
    exact q _
theorem c_law_cell (L : Lw K mg) : Cal P w K mg base 1 "_law_cell" (sp2 fs_cell) [] := by
  obtain ⟨fd, F⟩ := L.d_law_cell
  exact ⟨⟨_, fd, ["cells", "k"], [], ok_law_cell L F, L.g_law_cell, F.kp, F.bindsN (fun _ _ _ _ _ _ us hl => match us, hl with | [_, _], _ => rfl), .nil⟩⟩
theorem ok_law_draw (L : Lw K mg) {fd : FuncData} (F : FunD K "_law_draw" "_law_draw" (defArgs s_law_draw) (defBody s_law_draw) (defScope s_law_draw) (df_law_draw.dvs K) (df_law_draw.kws K) (He.fAd K ("_law_draw", none)) fd) : FnOk P w K mg base (L2N.CX P w) 2 (He.fAd K ("_law_draw", none)) fd (["cells", "k", "step", "many"] : List Str) (sp4 fs_draw) := by
  refine FunD.ok F sc_law_draw len4 (fun cdv A outer s H vs Q E hr h => ?_)
  obtain ⟨a, b, c, d, rfl, h⟩ := h
  refine ⟨_, (pss_one (ps_ret (pe_op o_mod (pe_callTy o_int1 (by rfl) L.f_int (by decide +kernel) (pa_cons (pe_op o_cat (pe_op o_cat (pe_op o_div (pe_c (c_law_cell (K := K) L) hr (by decide) (L2N.takes_of rfl rfl rfl rfl) (pa_cons (pv 0) (pa_cons (pv 1) pa_nil))) (pv 2)) (pe_op o_rep pe_int (pv 1))) pe_int) pa_nil)) (pv 3)))), ?_⟩
  obtain ⟨p, k, s, m, rfl, rfl, rfl, rfl, hp, h0, h1, h2, h3, q⟩ := h
  walk_at "zz"
  refine z_mod h3 ?_
  exact q _ (Int.emod_nonneg _ (by omega)) (Int.emod_lt_of_pos _ h3)
theorem c_law_draw (L : Lw K mg) : Cal P w K mg base 2 "_law_draw" (sp4 fs_draw) [] := by
  obtain ⟨fd, F⟩ := L.d_law_draw
  exact ⟨⟨_, fd, ["cells", "k", "step", "many"], [], ok_law_draw L F, L.g_law_draw, F.kp, F.bindsN (fun _ _ _ _ _ _ us hl => match us, hl with | [_, _, _, _], _ => rfl), .nil⟩⟩
theorem ok_law_whole (L : Lw K mg) {fd : FuncData} (F : FunD K "_law_whole" "_law_whole" (defArgs s_law_whole) (defBody s_law_whole) (defScope s_law_whole) (df_law_whole.dvs K) (df_law_whole.kws K) (He.fAd K ("_law_whole", none)) fd) : FnOk P w K mg base (L2N.CX P w) 1 (He.fAd K ("_law_whole", none)) fd (["x"] : List Str) (sp1 fs_whole1) := by
  refine FunD.ok F sc_law_whole len1 (fun cdv A outer s H vs Q E hr h => ?_)
  obtain ⟨a, rfl, h⟩ := h
  refine ⟨_, (pss_one (ps_ret (pe_and (pe_callB (callK rIsi (K := K) rfl call_isi) (by rfl) L.f_isinstance (by decide +kernel) (pa_cons (pv 0) (pa_cons (pe_ty "int" (by rfl) L.f_int (by decide +kernel)) pa_nil))) (pe_one (pe_not (pe_callB (callK rIsi (K := K) rfl call_isi) (by rfl) L.f_isinstance (by decide +kernel) (pa_cons (pv 0) (pa_cons (pe_ty "bool" (by rfl) L.f_bool (by decide +kernel)) pa_nil)))))))), ?_⟩
  obtain ⟨i, rfl, q⟩ := h
  walk_at "zz"
  exact q
theorem c_law_whole (L : Lw K mg) : Cal P w K mg base 1 "_law_whole" (sp1 fs_whole1) [] := by
  obtain ⟨fd, F⟩ := L.d_law_whole
  exact ⟨⟨_, fd, ["x"], [], ok_law_whole L F, L.g_law_whole, F.kp, F.bindsN (fun _ _ _ _ _ _ us hl => match us, hl with | [_], _ => rfl), .nil⟩⟩
theorem ch_law_whole (L : Lw K mg) : CalH P w K mg base 1 "_law_whole" (sp1 fs_whole1) := by
  obtain ⟨fd, F⟩ := L.d_law_whole
  refine ⟨_, fd, ["x"], okH F sc_law_whole len1 (fun cdv A outer s H vs Q E p hot1 hrH h => ?_), L.g_law_whole, F.kp, F.bindsN (fun _ _ _ _ _ _ us hl => match us, hl with | [_], _ => rfl)⟩
  obtain ⟨a, rfl, h⟩ := h
  refine ⟨_, (pss_one (ps_ret (pe_and (pe_callB (callK rIsi (K := K) rfl call_isi) (by rfl) L.f_isinstance (by decide +kernel) (pa_cons (pv 0) (pa_cons (pe_ty "int" (by rfl) L.f_int (by decide +kernel)) pa_nil))) (pe_one (pe_not (pe_callB (callK rIsi (K := K) rfl call_isi) (by rfl) L.f_isinstance (by decide +kernel) (pa_cons (pv 0) (pa_cons (pe_ty "bool" (by rfl) L.f_bool (by decide +kernel)) pa_nil)))))))), ?_⟩
  obtain ⟨i, rfl, q⟩ := h
  walk_at "zz"
  exact q
end
local macro_rules | `(tactic| walk_at "z") => `(tactic| with_reducible refine z_eqB ?_)
local macro_rules | `(tactic| walk_at "z") => `(tactic| with_reducible refine z_isB ?_)
local macro_rules | `(tactic| walk_at "z") => `(tactic| with_reducible refine u_whole1 ?_)
section
variable {P : Program} {w : World} {K : Frag} {mg : Str → Option Value} {base : Heap}
theorem ok_law_flag (L : Lw K mg) {fd : FuncData} (F : FunD K "_law_flag" "_law_flag" (defArgs s_law_flag) (defBody s_law_flag) (defScope s_law_flag) (df_law_flag.dvs K) (df_law_flag.kws K) (He.fAd K ("_law_flag", none)) fd) : FnOk P w K mg base (L2N.CX P w) 1 (He.fAd K ("_law_flag", none)) fd (["x", "due"] : List Str) (sp2 fs_flag) := by
  refine FunD.ok F sc_law_flag len2 (fun cdv A outer s H vs Q E hr h => ?_)
  obtain ⟨a, b, rfl, h⟩ := h
  refine ⟨_, (pss_one (ps_ret (pe_and (pe_callB (callK rIsi (K := K) rfl call_isi) (by rfl) L.f_isinstance (by decide +kernel) (pa_cons (pv 0) (pa_cons (pe_ty "bool" (by rfl) L.f_bool (by decide +kernel)) pa_nil))) (pe_one (pe_cmpR op_eq (pv 0) (pv 1) (nomark _)))))), ?_⟩
  obtain ⟨b, rfl, rfl, q⟩ := h
  walk_at "zz"
  exact q
theorem c_law_flag (L : Lw K mg) : Cal P w K mg base 1 "_law_flag" (sp2 fs_flag) [] := by
  obtain ⟨fd, F⟩ := L.d_law_flag
  exact ⟨⟨_, fd, ["x", "due"], [], ok_law_flag L F, L.g_law_flag, F.kp, F.bindsN (fun _ _ _ _ _ _ us hl => match us, hl with | [_, _], _ => rfl), .nil⟩⟩
theorem ok_law_at (L : Lw K mg) {fd : FuncData} (F : FunD K "_law_at" "_law_at" (defArgs s_law_at) (defBody s_law_at) (defScope s_law_at) (df_law_at.dvs K) (df_law_at.kws K) (He.fAd K ("_law_at", none)) fd) : FnOk P w K mg base (L2N.CX P w) 1 (He.fAd K ("_law_at", none)) fd (["q", "k"] : List Str) (sp2 fs_va) := by
  refine FunD.ok F sc_law_at len2 (fun cdv A outer s H vs Q E hr h => ?_)
  obtain ⟨a, b, rfl, h⟩ := h
  refine ⟨_, (pss_one (ps_ret (pe_op o_cat (pe_ix (ix_seqK (K := K) rfl) (pv 0) pe_int (fun _ _ => rfl)) (pe_op o_rep (pv 1) (pe_op o_cat (pe_ix (ix_seqK (K := K) rfl) (pv 0) pe_int (fun _ _ => rfl)) (pe_op o_rep (pv 1) (pe_ix (ix_seqK (K := K) rfl) (pv 0) pe_int (fun _ _ => rfl)))))))), ?_⟩
  obtain ⟨l, a, b, c, N, k, M, rfl, rfl, ⟨hl0, ba, bb, bc⟩, bk, hN, hM, q⟩ := h
  rcases hl0 with hl | ⟨D4, hl⟩
  · walk_at "zz"
    refine z_repU bk bc (by omega) ?_
    walk_at "zz"
    refine z_repU bk (Bits.add (a := M + N) (bb.up (by omega)) (bk.mul bc)) (by omega) ?_
    walk_at "zz"
    exact q
  · walk_at "zz"
    refine z_repU bk bc (by omega) ?_
    walk_at "zz"
    refine z_repU bk (Bits.add (a := M + N) (bb.up (by omega)) (bk.mul bc)) (by omega) ?_
    walk_at "zz"
    exact q
theorem c_law_at (L : Lw K mg) : Cal P w K mg base 1 "_law_at" (sp2 fs_va) [] := by
  obtain ⟨fd, F⟩ := L.d_law_at
  exact ⟨⟨_, fd, ["q", "k"], [], ok_law_at L F, L.g_law_at, F.kp, F.bindsN (fun _ _ _ _ _ _ us hl => match us, hl with | [_, _], _ => rfl), .nil⟩⟩
theorem ok_law_letters (L : Lw K mg) {fd : FuncData} (F : FunD K "_law_letters" "_law_letters" (defArgs s_law_letters) (defBody s_law_letters) (defScope s_law_letters) (df_law_letters.dvs K) (df_law_letters.kws K) (He.fAd K ("_law_letters", none)) fd) : FnOk P w K mg base (L2N.CX P w) 3 (He.fAd K ("_law_letters", none)) fd (["cells"] : List Str) (sp1 fs_lets) := by
  refine FunD.ok F sc_law_letters len1 (fun cdv A outer s H vs Q E hr h => ?_)
  obtain ⟨a, rfl, h⟩ := h
  refine ⟨_, (pss_cons (ps_if (pt_cmpR op_eq (pe_c (c_law_draw (K := K) L) hr (by decide) (L2N.takes_of rfl rfl rfl rfl) (pa_cons (pv 0) (pa_cons pe_int (pa_cons pe_int (pa_cons pe_int pa_nil))))) pe_int (nomark _)) (pss_cons (ps_if (pt_cmpR op_eq (pe_c (c_law_draw (K := K) L) hr (by decide) (L2N.takes_of rfl rfl rfl rfl) (pa_cons (pv 0) (pa_cons pe_int (pa_cons pe_int (pa_cons pe_int pa_nil))))) pe_int (nomark _)) (pss_one (ps_ret pe_int)) pss_nil)
    (pss_one (ps_ret (pe_op o_cat pe_int (pe_c (c_law_draw (K := K) L) hr (by decide) (L2N.takes_of rfl rfl rfl rfl) (pa_cons (pv 0) (pa_cons pe_int (pa_cons pe_int (pa_cons pe_int pa_nil))))))))) pss_nil)
    (pss_one (ps_ret (pe_op o_cat pe_int (pe_c (c_law_draw (K := K) L) hr (by decide) (L2N.takes_of rfl rfl rfl rfl) (pa_cons (pv 0) (pa_cons pe_int (pa_cons pe_int (pa_cons pe_int pa_nil))))))))), ?_⟩
  obtain ⟨p, rfl, hp, k⟩ := h
  walk_at "zz"
  refine z_d2 (fun c => ?_) (fun c => ?_)
  · walk_at "zz"
    refine z_d2 (fun c => ?_) (fun c => ?_)
    · walk_at "zz"
      exact k _ (by decide) (by decide)
    · walk_at "zz"
      exact k _ (by omega) (by omega)
  · walk_at "zz"
    exact k _ (by omega) (by omega)
theorem c_law_letters (L : Lw K mg) : Cal P w K mg base 3 "_law_letters" (sp1 fs_lets) [] := by
  obtain ⟨fd, F⟩ := L.d_law_letters
  exact ⟨⟨_, fd, ["cells"], [], ok_law_letters L F, L.g_law_letters, F.kp, F.bindsN (fun _ _ _ _ _ _ us hl => match us, hl with | [_], _ => rfl), .nil⟩⟩
theorem ok_law_holds (L : Lw K mg) {fd : FuncData} (F : FunD K "_law_holds" "_law_holds" (defArgs s_law_holds) (defBody s_law_holds) (defScope s_law_holds) (df_law_holds.dvs K) (df_law_holds.kws K) (He.fAd K ("_law_holds", none)) fd) : FnOk P w K mg base (L2N.CX P w) 2 (He.fAd K ("_law_holds", none)) fd (["n", "q"] : List Str) (sp2 fs_lh) := by
  refine FunD.ok F sc_law_holds len2 (fun cdv A outer s H vs Q E hr h => ?_)
  obtain ⟨a, b, rfl, h⟩ := h
  refine ⟨_, (pss_one (ps_ret (pe_callB (callK rAll (K := K) rfl (cr_all rfl)) (by rfl) L.f_all (by decide +kernel) (pa_cons (pe_lc (own := [("k", 2)]) (g := (gName 2)) (tt := tYes) rfl sc_law_holds.nd (pi_range2 (by rfl) L.f_range (pa_cons pe_int (pa_cons (pe_op o_cat (pv 0) pe_int) pa_nil))) (blkOk_by (N := ["n", "q", "k"]) (sc := defScope s_law_holds) (by decide +kernel)) (fun _ _ _ _ _ => pg_name (i := 2) sc_law_holds.nd rfl (Or.inl rfl)) (fun _ _ _ _ _ => pts_nil) (fun _ _ _ _ _ => (pe_cmpR o_ge (pe_c (c_law_at (K := K) L) hr (by decide) takesF (pa_cons (pv 1) (pa_cons (pv 2) pa_nil))) pe_int (nomark _)))) pa_nil)))), ?_⟩
  obtain ⟨n, l, a, b, c, N, rfl, rfl, h3, hN, n1, n2, k⟩ := h
  walk_at "zz"
  refine z_lcR2 (m := n.toNat) (fun j => V.bl (decide (0 ≤ S66.qv a b c (1 + (j : Int))))) (by omega) (by omega) (fun j H3 N3 hj s3 cc => ⟨rfl, ?_⟩) (fun D HD hD sD hlD => ?_)
  · walk_at "zz"
    refine u_va4 (L34.mono s3 h3) (small8 (by omega) (by omega)) (by omega) (by decide) ?_
    walk_at "zz"
    exact cc _ (fun _ _ h => h)
  have e : (List.range n.toNat).map (fun (j : Nat) => V.bl (decide (0 ≤ S66.qv a b c (1 + (j : Int))))) = ((List.range n.toNat).map fun (j : Nat) => decide (0 ≤ S66.qv a b c (1 + (j : Int)))).map V.bl := by rw [List.map_map] <;> rfl
  rw [e] at hlD
  walk_at "zz"
  refine z_allB hlD ?_
  exact k _ _ sD (all_iff (p := fun k => 0 ≤ S66.qv a b c k) n1)
theorem c_law_holds (L : Lw K mg) : Cal P w K mg base 2 "_law_holds" (sp2 fs_lh) [] := by
  obtain ⟨fd, F⟩ := L.d_law_holds
  exact ⟨⟨_, fd, ["n", "q"], [], ok_law_holds L F, L.g_law_holds, F.kp, F.bindsN (fun _ _ _ _ _ _ us hl => match us, hl with | [_, _], _ => rfl), .nil⟩⟩
end
end T
set_option maxHeartbeats 4000000
namespace T
open PySem PySem.Spec PyProof.Rows L2 Z
open S31 (cf)
open S30
theorem z_neStr {s : Str} {H : Hp} {Q : VK} (q : Q (.bl false) H) : rNe (.str s) (.str s) H Q := ⟨rfl, by rw [decide_eq_true rfl]; exact q⟩
def fs_fr1 (K : Frag) : F1 := fun x H Q _ => ∃ (a : Addr) (t b : Int), x = .ref a ∧ IsR K H a t b ∧ 0 < b ∧ Q (.bl true) H
theorem u_fr1 {K : Frag} {H : Hp} {Q : VK} {E : XK} {a : Addr} {t b : Int} (h : IsR K H a t b) (b0 : 0 < b) (q : Q (.bl true) H) : sp1 (fs_fr1 K) [.ref a] H Q E := ⟨_, rfl, a, t, b, rfl, h, b0, q⟩
def fs_is (K : Frag) : F3 := fun x y z H Q _ => ∃ (a : Addr) (T w t v : Int) (B C M N : Nat), x = .ref a ∧ y = .int t ∧ z = .int v ∧ Fr K H a T w ∧ 0 < w ∧ Bits B T ∧ Bits C w ∧ Bits M t ∧ Bits N v ∧ B + N ≤ 900000 ∧ M + C ≤ 900000 ∧ Q (.bl (decide (T * v = t * w))) H
theorem u_is {K : Frag} {H : Hp} {Q : VK} {E : XK} {a : Addr} {T w t v : Int} {B C M N : Nat} (h : Fr K H a T w) (w0 : 0 < w) (bT : Bits B T) (bw : Bits C w) (bt : Bits M t) (bv : Bits N v) (h1 : B + N ≤ 900000) (h2 : M + C ≤ 900000) (q : Q (.bl (decide (T * v = t * w))) H) : sp3 (fs_is K) [.ref a, .int t, .int v] H Q E := ⟨_, _, _, rfl, a, T, w, t, v, B, C, M, N, rfl, rfl, rfl, h, w0, bT, bw, bt, bv, h1, h2, q⟩
theorem is_eq {t b T w u v : Int} (b0 : 0 < b) (w0 : 0 < w) (e : t * w = T * b) : decide (t * v = u * b) = decide (T * v = u * w) := by
  rw [decide_eq_decide]
  constructor
  · intro h
    refine Int.eq_of_mul_eq_mul_right (show b ≠ 0 by omega) ?_
    calc T * v * b = T * b * v := by grind
      _ = t * w * v := by rw [e]
      _ = t * v * w := by grind
      _ = u * w * b := by rw [h]; grind
  · intro h
    refine Int.eq_of_mul_eq_mul_right (show w ≠ 0 by omega) ?_
    calc t * v * w = t * w * v := by grind
      _ = T * b * v := by rw [e]
      _ = T * v * b := by grind
      _ = u * b * w := by rw [h]; grind
def jA (k n : Int) : Int := if k = 0 then -n else k * (k + 1)
def jB (k n : Int) : Int := if k = 0 then n + 1 else -2 * k - 1
def jC (k : Int) : Int := if k = 0 then -1 else 1
def fs_blk : F2 := fun x y H Q _ => ∃ (n k : Int), x = .int n ∧ y = .int k ∧ -1000 ≤ k ∧ k ≤ 1000 ∧ ∀ l H', Same H H' → H' l = some (.lst [.int (jA k n), .int (jB k n), .int (jC k)]) → Q (.ref l) H'
local macro_rules | `(tactic| walk_at "up") => `(tactic| first
  | assumption
  | (refine' IsR.mono (by assumption) ?zup; case zup => walk_at "up")
  | (refine' IsE.mono (by assumption) ?zup; case zup => walk_at "up")
  | (refine' Same.at (by assumption) ?zup; case zup => walk_at "up")
  | (refine' SqL.of ?zup; case zup => walk_at "up")
  | (refine' L2.Same.seq (by assumption) ?zup; case zup => walk_at "up"))
local macro_rules | `(tactic| walk_at "z") => `(tactic| first
  | ((with_reducible refine' z_var ?zvh ?_); (case zvh => exact rfl))
  | with_reducible refine z_c ?_
  | with_reducible refine z_cons ?_
  | with_reducible refine z_nil ?_
  | with_reducible refine z_op ?_
  | with_reducible refine z_nx ?_
  | with_reducible refine z_seq ?_
  | with_reducible refine z_asg ?_
  | with_reducible refine z_asgG ?_
  | with_reducible refine z_call ?_
  | with_reducible refine z_sq0 ?_
  | with_reducible refine z_sq1 ?_
  | with_reducible refine z_ifS ?_
  | with_reducible refine z_test ?_
  | with_reducible refine z_tb ?_
  | with_reducible refine z_bl ?_
  | with_reducible refine z_blI ?_
  | with_reducible refine z_ret ?_
  | with_reducible refine z_rt ?_
  | with_reducible refine z_T ?_
  | with_reducible refine z_F ?_
  | with_reducible refine z_add ?_
  | with_reducible refine z_sub ?_
  | with_reducible refine z_neg ?_
  | with_reducible refine z_un ?_
  | with_reducible refine z_eqI ?_
  | with_reducible refine z_neI ?_
  | with_reducible refine z_lt ?_
  | with_reducible refine z_le ?_
  | with_reducible refine z_gt ?_
  | with_reducible refine z_ge ?_
  | with_reducible refine z_not ?_
  | with_reducible refine z_and ?_
  | with_reducible refine z_or ?_
  | with_reducible refine z_andV ?_
  | with_reducible refine z_orV ?_
  | with_reducible refine z_notV ?_
  | with_reducible refine z_if ?_
  | with_reducible refine z_cb ?_
  | with_reducible refine z_int1 ?_
  | with_reducible refine z_intb ?_
  | with_reducible refine z_abs ?_
  | with_reducible refine z_gcd ?_
  | with_reducible refine z_isi_ii ?_
  | with_reducible refine z_isi_ib ?_
  | with_reducible refine z_next ?_
  | with_reducible refine z_drop ?_
  | with_reducible refine z_par ?_
  | with_reducible refine z_par2 ?_
  | with_reducible refine z_tupN ?_
  | with_reducible refine z_lstN ?_
  | ((with_reducible refine' z_nt ?zl1 ?_); (case zl1 => exact Nat.le_of_ble_eq_true rfl); intro p H' hp hs he)
  | ((with_reducible refine' z_gtup ?zl1 ?zl2 ?_); (case zl1 => walk_at "up"); (case zl2 => exact rfl))
  | with_reducible refine z_bk ?_
  | with_reducible refine z_ct ?_
  | with_reducible refine z_break ?_
  | with_reducible refine z_cont ?_
  | with_reducible refine z_retN ?_
  | with_reducible refine z_nn ?_
  | with_reducible refine z_mk ?_
  | with_reducible refine z_gn ?_
  | with_reducible refine z_gcons ?_
  | with_reducible refine z_gnil ?_
  | with_reducible refine z_mt ?_
  | with_reducible refine z_mko ?_
  | with_reducible refine z_for2 ?_
  | with_reducible refine z_ownI ?_
  | ((with_reducible refine' z_lenL ?zl1 ?_); (case zl1 => walk_at "up"))
  | ((with_reducible refine' z_ixT ?zl1 ?zl2 ?_); (case zl1 => walk_at "up"); (case zl2 => exact rfl))
  | ((with_reducible refine' z_mulL ?zl1 ?zl2 ?_); (case zl1 => omega); (case zl2 => omega))
  | ((with_reducible refine' z_mulR ?zl1 ?zl2 ?_); (case zl1 => omega); (case zl2 => omega))
  | ((with_reducible refine' z_divS ?zl1 ?zl2 ?_); (case zl1 => omega); (case zl2 => omega))
  | ((with_reducible refine' z_mulW ?zl1 ?zl2 ?zl3 ?zl4 ?_); (case zl1 => omega); (case zl2 => omega); (case zl3 => omega); (case zl4 => omega))
  | ((with_reducible refine' z_divW ?zl1 ?zl2 ?_); (case zl1 => omega); (case zl2 => omega)))
local macro_rules | `(tactic| walk_at "zz") => `(tactic| repeat (walk_at "z"))
local macro_rules | `(tactic| walk_at "z") => `(tactic| with_reducible refine z_lstN ?_)
local macro_rules | `(tactic| walk_at "z") => `(tactic| with_reducible refine z_p6 ?_)
local macro_rules | `(tactic| walk_at "z") => `(tactic| with_reducible refine z_p12 ?_)
local macro_rules | `(tactic| walk_at "z") => `(tactic| with_reducible refine z_p13 ?_)
local macro_rules | `(tactic| walk_at "z") => `(tactic| with_reducible refine z_calln ?_)
local macro_rules | `(tactic| walk_at "z") => `(tactic| with_reducible refine z_xfS ?_)
local macro_rules | `(tactic| walk_at "z") => `(tactic| with_reducible refine z_lcS ?_)
local macro_rules | `(tactic| walk_at "z") => `(tactic| with_reducible refine z_lcRS ?_)
local macro_rules | `(tactic| walk_at "z") => `(tactic| with_reducible refine z_lcZS ?_)
local macro_rules | `(tactic| walk_at "z") => `(tactic| with_reducible refine z_foS ?_)
local macro_rules | `(tactic| walk_at "z") => `(tactic| with_reducible refine z_for1 ?_)
local macro_rules | `(tactic| walk_at "z") => `(tactic| with_reducible refine z_tsl ?_)
local macro_rules | `(tactic| walk_at "z") => `(tactic| with_reducible refine z_np ?_)
local macro_rules | `(tactic| walk_at "z") => `(tactic| with_reducible refine z_pt ?_)
local macro_rules | `(tactic| walk_at "z") => `(tactic| with_reducible refine z_pti ?_)
local macro_rules | `(tactic| walk_at "z") => `(tactic| with_reducible refine z_catI ?_)
local macro_rules | `(tactic| walk_at "z") => `(tactic| with_reducible refine z_isNI ?_)
local macro_rules | `(tactic| walk_at "z") => `(tactic| with_reducible refine z_isNN ?_)
local macro_rules | `(tactic| walk_at "z") => `(tactic| with_reducible refine z_notNI ?_)
local macro_rules | `(tactic| walk_at "z") => `(tactic| with_reducible refine z_notNN ?_)
local macro_rules | `(tactic| walk_at "z") => `(tactic| with_reducible refine z_gsub ?_)
local macro_rules | `(tactic| walk_at "z") => `(tactic| with_reducible refine z_isNb ?_)
local macro_rules | `(tactic| walk_at "z") => `(tactic| with_reducible refine z_notNb ?_)
local macro_rules | `(tactic| walk_at "z") => `(tactic| ((with_reducible refine' z_nlR ?zl1 ?_); (case zl1 => exact Nat.le_of_ble_eq_true rfl); intro p H' hp hs he))
local macro_rules | `(tactic| walk_at "z") => `(tactic| ((with_reducible refine' z_repR ?zl1 ?zl2 ?_); (case zl1 => omega); (case zl2 => omega)))
local macro_rules | `(tactic| walk_at "z") => `(tactic| ((with_reducible refine' z_repL ?zl1 ?zl2 ?_); (case zl1 => omega); (case zl2 => omega)))
local macro_rules | `(tactic| walk_at "z") => `(tactic| ((with_reducible refine' z_lenLst ?zl1 ?_); (case zl1 => walk_at "up")))
local macro_rules | `(tactic| walk_at "z") => `(tactic| ((with_reducible refine' z_cat ?zl1 ?zl2 ?zl3 ?_); (case zl1 => walk_at "up"); (case zl2 => walk_at "up"); (case zl3 => (simp only [List.length_map, List.length_cons, List.length_nil, List.length_append, List.length_replicate]; omega)); intro p H' hp hs he))
local macro_rules | `(tactic| walk_at "z") => `(tactic| with_reducible refine z_sfl ?_)
local macro_rules | `(tactic| walk_at "z") => `(tactic| with_reducible refine z_lcES ?_)
local macro_rules | `(tactic| walk_at "z") => `(tactic| with_reducible refine z_lcMS ?_)
local macro_rules | `(tactic| walk_at "z") => `(tactic| with_reducible refine z_foES ?_)
local macro_rules | `(tactic| walk_at "z") => `(tactic| with_reducible refine z_fo3S ?_)
local macro_rules | `(tactic| walk_at "z") => `(tactic| with_reducible refine z_sta ?_)
local macro_rules | `(tactic| walk_at "z") => `(tactic| with_reducible refine z_sta1 ?_)
local macro_rules | `(tactic| walk_at "z") => `(tactic| with_reducible refine z_lcTS ?_)
local macro_rules | `(tactic| walk_at "z") => `(tactic| with_reducible refine z_foTS ?_)
local macro_rules | `(tactic| walk_at "z") => `(tactic| with_reducible refine z_revTS ?_)
local macro_rules | `(tactic| walk_at "z") => `(tactic| with_reducible refine z_max2 ?_)
local macro_rules | `(tactic| walk_at "z") => `(tactic| with_reducible refine z_fldS ?_)
local macro_rules | `(tactic| walk_at "z") => `(tactic| ((with_reducible refine' z_fdt ?zc1 ?zc2 ?zl2 ?_); (case zc1 => exact Lw.cl_Ratio (by assumption)); (case zc2 => exact Lw.na_Ratio_top (by assumption)); (case zl2 => walk_at "up")))
local macro_rules | `(tactic| walk_at "z") => `(tactic| ((with_reducible refine' z_fdb ?zc1 ?zc2 ?zl2 ?_); (case zc1 => exact Lw.cl_Ratio (by assumption)); (case zc2 => exact Lw.na_Ratio_bottom (by assumption)); (case zl2 => walk_at "up")))
local macro_rules | `(tactic| walk_at "z") => `(tactic| ((with_reducible refine' z_fldt ?zc1 ?zc2 ?zl1 ?zl2 ?_); (case zc1 => exact Lw.cl_Ratio (by assumption)); (case zc2 => exact Lw.na_Ratio_top (by assumption)); (case zl1 => exact rfl); (case zl2 => walk_at "up")))
local macro_rules | `(tactic| walk_at "z") => `(tactic| ((with_reducible refine' z_fldb ?zc1 ?zc2 ?zl1 ?zl2 ?_); (case zc1 => exact Lw.cl_Ratio (by assumption)); (case zc2 => exact Lw.na_Ratio_bottom (by assumption)); (case zl1 => exact rfl); (case zl2 => walk_at "up")))
local macro_rules | `(tactic| walk_at "z") => `(tactic| ((with_reducible refine' z_fldG ?zc1 ?zc2 ?zl0 ?zl1 ?zl2 ?_); (case zc1 => exact Lw.cl_Poly (by assumption)); (case zc2 => exact Lw.na_Poly_numbers (by assumption)); (case zl0 => exact rfl); (case zl1 => walk_at "up"); (case zl2 => exact lkA)))
local macro_rules | `(tactic| walk_at "z") => `(tactic| ((with_reducible refine' z_fldG ?zc1 ?zc2 ?zl0 ?zl1 ?zl2 ?_); (case zc1 => exact Lw.cl_Poly (by assumption)); (case zc2 => exact Lw.na_Poly_over (by assumption)); (case zl0 => exact rfl); (case zl1 => walk_at "up"); (case zl2 => exact lkO)))
local macro_rules | `(tactic| walk_at "z") => `(tactic| ((with_reducible refine' z_fldG ?zc1 ?zc2 ?zl0 ?zl1 ?zl2 ?_); (case zc1 => exact Lw.cl_Poly (by assumption)); (case zc2 => exact Lw.na_Poly_degree (by assumption)); (case zl0 => exact rfl); (case zl1 => walk_at "up"); (case zl2 => exact lkD)))
local macro_rules | `(tactic| walk_at "z") => `(tactic| ((with_reducible refine' z_glst ?zl1 ?zl2 ?_); (case zl1 => walk_at "up"); (case zl2 => exact rfl)))
local macro_rules | `(tactic| walk_at "z") => `(tactic| ((with_reducible refine' z_ixLst ?zl1 ?zl2 ?_); (case zl1 => walk_at "up"); (case zl2 => exact rfl)))
local macro_rules | `(tactic| walk_at "z") => `(tactic| ((with_reducible refine' u_mtV ?zl1 ?_); (case zl1 => walk_at "up")))
local macro_rules | `(tactic| walk_at "z") => `(tactic| ((with_reducible refine' u_mtQP ?zl1 ?_); (case zl1 => walk_at "up")))
local macro_rules | `(tactic| walk_at "z") => `(tactic| ((with_reducible refine' z_fldG ?zc1 ?zc2 ?zl0 ?zl1 ?zl2 ?_); (case zc1 => exact Lw.cl_SixClaim (by assumption)); (case zc2 => exact Lw.na_SixClaim_letters (by assumption)); (case zl0 => exact rfl); (case zl1 => walk_at "up"); (case zl2 => exact lkA)))
local macro_rules | `(tactic| walk_at "z") => `(tactic| ((with_reducible refine' z_fldG ?zc1 ?zc2 ?zl0 ?zl1 ?zl2 ?_); (case zc1 => exact Lw.cl_SixClaim (by assumption)); (case zc2 => exact Lw.na_SixClaim_numbers (by assumption)); (case zl0 => exact rfl); (case zl1 => walk_at "up"); (case zl2 => exact (lkB (by decide +kernel) lkA))))
local macro_rules | `(tactic| walk_at "z") => `(tactic| ((with_reducible refine' z_fldG ?zc1 ?zc2 ?zl0 ?zl1 ?zl2 ?_); (case zc1 => exact Lw.cl_SixPaper (by assumption)); (case zc2 => exact Lw.na_SixPaper_block (by assumption)); (case zl0 => exact rfl); (case zl1 => walk_at "up"); (case zl2 => exact lkA)))
local macro_rules | `(tactic| walk_at "z") => `(tactic| ((with_reducible refine' z_fldG ?zc1 ?zc2 ?zl0 ?zl1 ?zl2 ?_); (case zc1 => exact Lw.cl_SixPaper (by assumption)); (case zc2 => exact Lw.na_SixPaper_amount (by assumption)); (case zl0 => exact rfl); (case zl1 => walk_at "up"); (case zl2 => exact (lkB (by decide +kernel) lkA))))
local macro_rules | `(tactic| walk_at "z") => `(tactic| ((with_reducible refine' z_fldG ?zc1 ?zc2 ?zl0 ?zl1 ?zl2 ?_); (case zc1 => exact Lw.cl_SixPaper (by assumption)); (case zc2 => exact Lw.na_SixPaper_rest (by assumption)); (case zl0 => exact rfl); (case zl1 => walk_at "up"); (case zl2 => exact (lkB (by decide +kernel) (lkB (by decide +kernel) lkA)))))
local macro_rules | `(tactic| walk_at "z") => `(tactic| with_reducible refine z_eqB ?_)
local macro_rules | `(tactic| walk_at "z") => `(tactic| with_reducible refine z_isB ?_)
local macro_rules | `(tactic| walk_at "z") => `(tactic| with_reducible refine u_whole1 ?_)
local macro_rules | `(tactic| walk_at "z") => `(tactic| with_reducible refine z_conS ?_)
local macro_rules | `(tactic| walk_at "z") => `(tactic| with_reducible refine z_prpS ?_)
local macro_rules | `(tactic| walk_at "z") => `(tactic| with_reducible refine z_neStr ?_)
theorem same64d {H H1 H2 : Hp} (h : Same H1 H2) (e : Same H H1) : Same H H2 := e.trans h
local macro_rules | `(tactic| walk_at "sm") => `(tactic| first
  | assumption
  | exact fun _ _ h => h
  | (refine' same64d (by assumption) ?zsm; case zsm => walk_at "sm"))
local macro_rules | `(tactic| walk_at "up") => `(tactic| first
  | assumption
  | (with_reducible refine' IsR.mono (by assumption) ?zup; case zup => walk_at "up")
  | (with_reducible refine' IsV.mono (by assumption) ?zup; case zup => walk_at "up")
  | (with_reducible refine' IsQ.mono (by assumption) ?zup; case zup => walk_at "up")
  | (with_reducible refine' QP.mono (by assumption) ?zup; case zup => walk_at "up")
  | (with_reducible refine' R3.mono (by assumption) ?zup; case zup => walk_at "up")
  | (with_reducible refine' Same.at (by assumption) ?zup; case zup => walk_at "up")
  | (with_reducible refine' Fr.mono (by assumption) ?zup; case zup => walk_at "up")
  | (with_reducible refine' FS.mono (by assumption) ?zup; case zup => walk_at "up")
  | (with_reducible refine' IsSC.mono (by assumption) ?zup; case zup => walk_at "up")
  | (with_reducible refine' L3.mono (by assumption) ?zup; case zup => walk_at "up")
  | (with_reducible refine' IsPool.mono (by assumption) ?zup; case zup => walk_at "up")
  | (with_reducible refine' IsSix.mono (by assumption) ?zup; case zup => walk_at "up")
  | (with_reducible refine' Says.mono (by assumption) ?zup; case zup => walk_at "up")
  | (refine' And.left ?zup; case zup => assumption)
  | fail)
section
variable {P : Program} {w : World} {K : Frag} {mg : Str → Option Value} {base : Heap}
theorem ok_law_fraction (L : Lw K mg) {fd : FuncData} (F : FunD K "_law_fraction" "_law_fraction" (defArgs s_law_fraction) (defBody s_law_fraction) (defScope s_law_fraction) (df_law_fraction.dvs K) (df_law_fraction.kws K) (He.fAd K ("_law_fraction", none)) fd) : FnOk P w K mg base (L2N.CX P w) 2 (He.fAd K ("_law_fraction", none)) fd (["x"] : List Str) (sp1 (fs_fr1 K)) := by
  refine FunD.ok F sc_law_fraction len1 (fun cdv A outer s H vs Q E hr h => ?_)
  obtain ⟨x, rfl, h⟩ := h
  refine ⟨_, (pss_cons (ps_if (pt_not (pt_val (pe_callB (callK rIsi (K := K) rfl call_isi) (by rfl) L.f_isinstance (by decide +kernel) (pa_cons (pv 0) (pa_cons (pe_cls L.g_Ratio) pa_nil))))) (pss_one (ps_ret pe_bl)) pss_nil)
    (pss_one (ps_ret (pe_and (pe_c (c_law_whole (K := K) L) hr (by decide) (L2N.takes_of rfl rfl rfl rfl) (pa_cons (pe_fld (pv 0) rfl) pa_nil)) (pe_and (pe_c (c_law_whole (K := K) L) hr (by decide) (L2N.takes_of rfl rfl rfl rfl) (pa_cons (pe_fld (pv 0) rfl) pa_nil)) (pe_one (pe_cmpR o_ge (pe_fld (pv 0) rfl) pe_int (nomark _)))))))), ?_⟩
  obtain ⟨a, t, b, rfl, hr, b0, q⟩ := h
  walk_at "zz"
  refine z_isR L.in_Ratio L.kt_Ratio_Ratio hr ?_
  walk_at "zz"
  rw [decide_eq_true (show 1 ≤ b by omega)]
  exact q
theorem c_law_fraction (L : Lw K mg) : Cal P w K mg base 2 "_law_fraction" (sp1 (fs_fr1 K)) [] := by
  obtain ⟨fd, F⟩ := L.d_law_fraction
  exact ⟨⟨_, fd, ["x"], [], ok_law_fraction L F, L.g_law_fraction, F.kp, F.bindsN (fun _ _ _ _ _ _ us hl => match us, hl with | [_], _ => rfl), .nil⟩⟩
theorem ok_law_is (L : Lw K mg) {fd : FuncData} (F : FunD K "_law_is" "_law_is" (defArgs s_law_is) (defBody s_law_is) (defScope s_law_is) (df_law_is.dvs K) (df_law_is.kws K) (He.fAd K ("_law_is", none)) fd) : FnOk P w K mg base (L2N.CX P w) 3 (He.fAd K ("_law_is", none)) fd (["x", "top", "bottom"] : List Str) (sp3 (fs_is K)) := by
  refine FunD.ok F sc_law_is len3 (fun cdv A outer s H vs Q E hr h => ?_)
  obtain ⟨x, y, z, rfl, h⟩ := h
  refine ⟨_, (pss_one (ps_ret (pe_and (pe_c (c_law_fraction (K := K) L) hr (by decide) (L2N.takes_of rfl rfl rfl rfl) (pa_cons (pv 0) pa_nil)) (pe_one (pe_cmpR op_eq (pe_op o_rep (pe_fld (pv 0) rfl) (pv 2)) (pe_op o_rep (pv 1) (pe_fld (pv 0) rfl)) (nomark _)))))), ?_⟩
  obtain ⟨a, T, w, t', v, B, C, M, N, rfl, rfl, rfl, hF, w0, bT, bw, bt', bv, h1, h2, q⟩ := h
  obtain ⟨t, b, hr, b0, g, e⟩ := id hF
  obtain ⟨bt, bb⟩ := fr_bits b0 g w0 e bT bw
  walk_at "zz"
  refine u_fr1 hr b0 ?_
  walk_at "zz"
  refine z_repU0 bt bv h1 ?_
  walk_at "zz"
  refine z_repU0 bt' bb h2 ?_
  walk_at "zz"
  rw [is_eq b0 w0 e]
  exact q
theorem c_law_is (L : Lw K mg) : Cal P w K mg base 3 "_law_is" (sp3 (fs_is K)) [] := by
  obtain ⟨fd, F⟩ := L.d_law_is
  exact ⟨⟨_, fd, ["x", "top", "bottom"], [], ok_law_is L F, L.g_law_is, F.kp, F.bindsN (fun _ _ _ _ _ _ us hl => match us, hl with | [_, _, _], _ => rfl), .nil⟩⟩
theorem ok_law_block (L : Lw K mg) {fd : FuncData} (F : FunD K "_law_block" "_law_block" (defArgs s_law_block) (defBody s_law_block) (defScope s_law_block) (df_law_block.dvs K) (df_law_block.kws K) (He.fAd K ("_law_block", none)) fd) : FnOk P w K mg base (L2N.CX P w) 1 (He.fAd K ("_law_block", none)) fd (["n", "k"] : List Str) (sp2 fs_blk) := by
  refine FunD.ok F sc_law_block len2 (fun cdv A outer s H vs Q E hr h => ?_)
  obtain ⟨x, y, rfl, h⟩ := h
  refine ⟨_, (pss_cons (ps_if (pt_cmpR op_eq (pv 1) pe_int (nomark _)) (pss_one (ps_ret (pe_lst (pa_cons (pe_un o_neg (pv 0)) (pa_cons (pe_op o_cat (pv 0) pe_int) (pa_cons (pe_un o_neg pe_int) pa_nil)))))) pss_nil)
    (pss_one (ps_ret (pe_lst (pa_cons (pe_op o_rep (pv 1) (pe_op o_cat (pv 1) pe_int)) (pa_cons (pe_op o_sub (pe_op o_rep (pe_un o_neg pe_int) (pv 1)) pe_int) (pa_cons pe_int pa_nil))))))), ?_⟩
  obtain ⟨n, kk, rfl, rfl, k0, k1, k⟩ := h
  unfold jA jB jC at k
  walk_at "zz"
  refine z_d2 (fun c => ?_) (fun c => ?_)
  · rw [if_pos c, if_pos c, if_pos c] at k
    walk_at "zz"
    exact k _ _ (by walk_at "sm") (by assumption)
  · rw [if_neg c, if_neg c, if_neg c] at k
    walk_at "zz"
    exact k _ _ (by walk_at "sm") (by assumption)
theorem c_law_block (L : Lw K mg) : Cal P w K mg base 1 "_law_block" (sp2 fs_blk) [] := by
  obtain ⟨fd, F⟩ := L.d_law_block
  exact ⟨⟨_, fd, ["n", "k"], [], ok_law_block L F, L.g_law_block, F.kp, F.bindsN (fun _ _ _ _ _ _ us hl => match us, hl with | [_, _], _ => rfl), .nil⟩⟩
end
end T
set_option maxHeartbeats 4000000
namespace T
open PySem PySem.Spec PyProof.Rows L2 Z
open S31 (cf)
open S30
theorem ch {A B C w n : Int} (hw : 0 < w) : Hold ((A : Rat) / w) ((B : Rat) / w) ((C : Rat) / w) n ↔ ∀ k, 1 ≤ k → k ≤ n → 0 ≤ S66.qv A B C k := by
  have hw' : (0 : Rat) < (w : Rat) := S66.c_lt.mpr hw
  unfold Hold
  constructor
  · intro h k k1 k2
    exact S66.rv0.mp ((S66.rv_over hw' _).mp (h k k1 k2))
  · intro h k k1 k2
    exact (S66.rv_over hw' _).mpr (S66.rv0.mpr (h k k1 k2))
theorem fr_isV {K : Frag} {H : Hp} {a : Addr} {T w : Int} {B C : Nat} (h : Fr K H a T w) (w0 : 0 < w) (bT : Bits B T) (bw : Bits C w) (hC : C ≤ 110) : IsW K H a ((T : Rat) / w) B ∧ (C ≤ B → IsV K H a ((T : Rat) / w) B) := by
  obtain ⟨t, b, hr, b0, g, e⟩ := h
  obtain ⟨bt, bb⟩ := fr_bits b0 g w0 e bT bw
  have w' := ne_cast (show w ≠ 0 by omega)
  have e' : (t : Rat) * (w : Rat) = (T : Rat) * (b : Rat) := by rw [← Rat.intCast_mul, ← Rat.intCast_mul, e]
  exact ⟨⟨t, b, hr, b0, bt, bb.up hC, by grind⟩, fun hB => ⟨t, b, hr, b0, bt, bb.up hB, by grind⟩⟩
/-- a list of three numbers and what is under them -/
def L4 (H : Hp) (l : Addr) (A B C w : Int) (N : Nat) : Prop := H l = some (.lst [.int A, .int B, .int C, .int w]) ∧ Bits N A ∧ Bits N B ∧ Bits N C ∧ 0 < w ∧ Bits 110 w
theorem L4.mono {H H' : Hp} {l : Addr} {A B C w : Int} {N : Nat} (e : Same H H') (h : L4 H l A B C w N) : L4 H' l A B C w N := ⟨e _ _ h.1, h.2⟩
/-- an amount u / b -/
def PU (H : Hp) (p : Addr) (u b : Int) : Prop := H p = some (.lst [.int u, .int b]) ∧ Bits 20 u ∧ 0 < b ∧ Bits 5 b
theorem PU.mono {H H' : Hp} {p : Addr} {u b : Int} (e : Same H H') (h : PU H p u b) : PU H' p u b := ⟨e _ _ h.1, h.2⟩
def fs_lcl (K : Frag) : F2 := fun x y H Q _ => ∃ (n A B C w : Int) (l : Addr), x = .int n ∧ y = .ref l ∧ L4 H l A B C w 390 ∧ 2 ≤ n ∧ n ≤ 200 ∧ ∀ z H', Same H H' → IsSC K H' z n ((A : Rat) / w) ((B : Rat) / w) ((C : Rat) / w) 390 → Q (.ref z) H'
def fs_lmk (K : Frag) : F4 := fun x y z t H Q _ => ∃ (k u b low : Int) (p r : Addr) (ns : List Int), x = .int k ∧ y = .ref p ∧ z = .ref r ∧ t = .int low ∧ PU H p u b ∧ 0 ≤ k ∧ k ≤ 200 ∧ 0 < low ∧ Bits 5 low ∧ H r = some (.lst (ns.map V.int)) ∧ ns.length ≤ 20 ∧
  ∀ s w v ls o H', Same H H' → IsSix K H' s k w v → Fr K H' w u b → IsQ K H' v ls o → LowT ns low ls o → Q (.ref s) H'
def fs_sum : F5 := fun x y z t v H Q _ => ∃ (n k u b r0 r1 r2 low : Int) (p r : Addr) (N : Nat), x = .int n ∧ y = .int k ∧ z = .ref p ∧ t = .ref r ∧ v = .int low ∧ PU H p u b ∧ L3 H r r0 r1 r2 N ∧ 45 ≤ N ∧ N ≤ 1000 ∧ 0 ≤ k ∧ k ≤ 200 ∧ 2 ≤ n ∧ n ≤ 200 ∧ 0 < low ∧ Bits 5 low ∧
  ∀ l H', Same H H' → L4 H' l (r0 * b + u * jA k n * low) (r1 * b + u * jB k n * low) (r2 * b + u * jC k * low) (low * b) (N + 10) → Q (.ref l) H'
def fs_says (K : Frag) : F3 := fun x y z H Q _ => ∃ (cl s : Addr) (due : Bool), x = .ref cl ∧ y = .ref s ∧ z = .bl due ∧ Says K H cl s due ∧ ∀ H', Same H H' → Q (.bl true) H'
theorem j17 {k n : Int} (k0 : 0 ≤ k) (k1 : k ≤ 200) (n0 : 2 ≤ n) (n1 : n ≤ 200) : Bits 17 (jA k n) ∧ Bits 17 (jB k n) ∧ Bits 17 (jC k) := by
  have sm : ∀ {m : Int}, -131072 < m → m < 131072 → Bits 17 m := fun {m} h1 h2 => Bits.small (n := 17) (by show -(131072 : Int) < m; exact h1) (by show m < (131072 : Int); exact h2)
  unfold jA jB jC
  refine ⟨?_, ?_, ?_⟩
  · split
    · exact sm (by omega) (by omega)
    · refine sm ?_ ?_
      · have := Int.mul_nonneg k0 (show 0 ≤ k + 1 by omega)
        omega
      · have := Int.mul_le_mul k1 (show k + 1 ≤ 201 by omega) (by omega) (by decide)
        omega
  · split
    · exact sm (by omega) (by omega)
    · exact sm (by omega) (by omega)
  · split
    · exact sm (by decide) (by decide)
    · exact sm (by decide) (by decide)
theorem three_ex {xs : List V} (h : xs.length = 3) : ∃ x y z, xs = [x, y, z] := by
  match xs, h with
  | [x, y, z], _ => exact ⟨x, y, z, rfl⟩
theorem over_mul {A w : Int} (hw : 0 < w) : (A : Rat) = (A : Rat) / w * w := by
  have := ne_cast (show w ≠ 0 by omega)
  grind
theorem cf3b {A B C : Int} {N : Nat} (ba : Bits N A) (bb : Bits N B) (bc : Bits N C) (k : Nat) : Bits N (cf [A, B, C] k) := by
  match k with
  | 0 => exact ba
  | 1 => exact bb
  | 2 => exact bc
  | k + 3 =>
    rw [S31.cf_out (by show 3 ≤ k + 3; omega)]
    exact Bits.zero
theorem at43 {A B C w : Int} {i : Nat} (h : i < 3) : atI [V.int A, V.int B, V.int C, V.int w] (i : Int) = some (.int (cf [A, B, C] i)) := by
  have : i = 0 ∨ i = 1 ∨ i = 2 := by omega
  rcases this with rfl | rfl | rfl <;> rfl
theorem at33 {A B C : Int} {i : Nat} (h : i < 3) : atI [V.int A, V.int B, V.int C] (i : Int) = some (.int (cf [A, B, C] i)) := by
  have : i = 0 ∨ i = 1 ∨ i = 2 := by omega
  rcases this with rfl | rfl | rfl <;> rfl
theorem u_mkSC {K : Frag} {H : Hp} {Q : VK} {E : XK} {s x0 x1 x2 : Addr} {n : Int} {v0 v1 v2 : Rat} {B : Nat} (h : H s = some (.lst [.ref x0, .ref x1, .ref x2])) (h0 : IsW K H x0 v0 B) (h1 : IsW K H x1 v1 B) (h2 : IsW K H x2 v2 B) (n1 : 2 ≤ n) (n2 : n ≤ 200)
    (k : ∀ x H', Same H H' → IsSC K H' x n v0 v1 v2 B → Q (.ref x) H') : zMk (He.ga K "SixClaim") (sp3 (fs_scinit K)) [] E [.int n, .ref s] H Q :=
  fun x dx hx hdx ne => ⟨_, _, _, rfl, x, dx, s, H, n, _, rfl, rfl, rfl, rfl, hx, hdx, ne, h, rfl, n1, n2, fun H' t s' e1 e2 => ⟨rfl, k x H' s' ⟨dx, t, e1, x0, x1, x2, .inr e2, h0.mono s', h1.mono s', h2.mono s'⟩⟩⟩
theorem u_mkSix {K : Frag} {H : Hp} {Q : VK} {E : XK} {k : Int} {w v : Addr} (k0 : 0 ≤ k) (k1 : k ≤ 200) (q : ∀ s H', Same H H' → IsSix K H' s k w v → Q (.ref s) H') : zMk (He.ga K "SixPaper") (sp4 (fs_spinit K)) [] E [.int k, .ref w, .ref v] H Q :=
  fun x dx hx hdx ne => ⟨_, _, _, _, rfl, x, dx, H, k, rfl, rfl, rfl, hx, hdx, ne, k0, k1, fun H' s' e => ⟨rfl, q x H' s' ⟨dx, e⟩⟩⟩
local macro_rules | `(tactic| walk_at "up") => `(tactic| first
  | assumption
  | (refine' IsR.mono (by assumption) ?zup; case zup => walk_at "up")
  | (refine' IsE.mono (by assumption) ?zup; case zup => walk_at "up")
  | (refine' Same.at (by assumption) ?zup; case zup => walk_at "up")
  | (refine' SqL.of ?zup; case zup => walk_at "up")
  | (refine' L2.Same.seq (by assumption) ?zup; case zup => walk_at "up"))
local macro_rules | `(tactic| walk_at "z") => `(tactic| first
  | ((with_reducible refine' z_var ?zvh ?_); (case zvh => exact rfl))
  | with_reducible refine z_c ?_
  | with_reducible refine z_cons ?_
  | with_reducible refine z_nil ?_
  | with_reducible refine z_op ?_
  | with_reducible refine z_nx ?_
  | with_reducible refine z_seq ?_
  | with_reducible refine z_asg ?_
  | with_reducible refine z_asgG ?_
  | with_reducible refine z_call ?_
  | with_reducible refine z_sq0 ?_
  | with_reducible refine z_sq1 ?_
  | with_reducible refine z_ifS ?_
  | with_reducible refine z_test ?_
  | with_reducible refine z_tb ?_
  | with_reducible refine z_bl ?_
  | with_reducible refine z_blI ?_
  | with_reducible refine z_ret ?_
  | with_reducible refine z_rt ?_
  | with_reducible refine z_T ?_
  | with_reducible refine z_F ?_
  | with_reducible refine z_add ?_
  | with_reducible refine z_sub ?_
  | with_reducible refine z_neg ?_
  | with_reducible refine z_un ?_
  | with_reducible refine z_eqI ?_
  | with_reducible refine z_neI ?_
  | with_reducible refine z_lt ?_
  | with_reducible refine z_le ?_
  | with_reducible refine z_gt ?_
  | with_reducible refine z_ge ?_
  | with_reducible refine z_not ?_
  | with_reducible refine z_and ?_
  | with_reducible refine z_or ?_
  | with_reducible refine z_andV ?_
  | with_reducible refine z_orV ?_
  | with_reducible refine z_notV ?_
  | with_reducible refine z_if ?_
  | with_reducible refine z_cb ?_
  | with_reducible refine z_int1 ?_
  | with_reducible refine z_intb ?_
  | with_reducible refine z_abs ?_
  | with_reducible refine z_gcd ?_
  | with_reducible refine z_isi_ii ?_
  | with_reducible refine z_isi_ib ?_
  | with_reducible refine z_next ?_
  | with_reducible refine z_drop ?_
  | with_reducible refine z_par ?_
  | with_reducible refine z_par2 ?_
  | with_reducible refine z_tupN ?_
  | with_reducible refine z_lstN ?_
  | ((with_reducible refine' z_nt ?zl1 ?_); (case zl1 => exact Nat.le_of_ble_eq_true rfl); intro p H' hp hs he)
  | ((with_reducible refine' z_gtup ?zl1 ?zl2 ?_); (case zl1 => walk_at "up"); (case zl2 => exact rfl))
  | with_reducible refine z_bk ?_
  | with_reducible refine z_ct ?_
  | with_reducible refine z_break ?_
  | with_reducible refine z_cont ?_
  | with_reducible refine z_retN ?_
  | with_reducible refine z_nn ?_
  | with_reducible refine z_mk ?_
  | with_reducible refine z_gn ?_
  | with_reducible refine z_gcons ?_
  | with_reducible refine z_gnil ?_
  | with_reducible refine z_mt ?_
  | with_reducible refine z_mko ?_
  | with_reducible refine z_for2 ?_
  | with_reducible refine z_ownI ?_
  | ((with_reducible refine' z_lenL ?zl1 ?_); (case zl1 => walk_at "up"))
  | ((with_reducible refine' z_ixT ?zl1 ?zl2 ?_); (case zl1 => walk_at "up"); (case zl2 => exact rfl))
  | ((with_reducible refine' z_mulL ?zl1 ?zl2 ?_); (case zl1 => omega); (case zl2 => omega))
  | ((with_reducible refine' z_mulR ?zl1 ?zl2 ?_); (case zl1 => omega); (case zl2 => omega))
  | ((with_reducible refine' z_divS ?zl1 ?zl2 ?_); (case zl1 => omega); (case zl2 => omega))
  | ((with_reducible refine' z_mulW ?zl1 ?zl2 ?zl3 ?zl4 ?_); (case zl1 => omega); (case zl2 => omega); (case zl3 => omega); (case zl4 => omega))
  | ((with_reducible refine' z_divW ?zl1 ?zl2 ?_); (case zl1 => omega); (case zl2 => omega)))
local macro_rules | `(tactic| walk_at "zz") => `(tactic| repeat (walk_at "z"))
local macro_rules | `(tactic| walk_at "z") => `(tactic| with_reducible refine z_lstN ?_)
local macro_rules | `(tactic| walk_at "z") => `(tactic| with_reducible refine z_p6 ?_)
local macro_rules | `(tactic| walk_at "z") => `(tactic| with_reducible refine z_p12 ?_)
local macro_rules | `(tactic| walk_at "z") => `(tactic| with_reducible refine z_p13 ?_)
local macro_rules | `(tactic| walk_at "z") => `(tactic| with_reducible refine z_calln ?_)
local macro_rules | `(tactic| walk_at "z") => `(tactic| with_reducible refine z_xfS ?_)
local macro_rules | `(tactic| walk_at "z") => `(tactic| with_reducible refine z_lcS ?_)
local macro_rules | `(tactic| walk_at "z") => `(tactic| with_reducible refine z_lcRS ?_)
local macro_rules | `(tactic| walk_at "z") => `(tactic| with_reducible refine z_lcZS ?_)
local macro_rules | `(tactic| walk_at "z") => `(tactic| with_reducible refine z_foS ?_)
local macro_rules | `(tactic| walk_at "z") => `(tactic| with_reducible refine z_for1 ?_)
local macro_rules | `(tactic| walk_at "z") => `(tactic| with_reducible refine z_tsl ?_)
local macro_rules | `(tactic| walk_at "z") => `(tactic| with_reducible refine z_np ?_)
local macro_rules | `(tactic| walk_at "z") => `(tactic| with_reducible refine z_pt ?_)
local macro_rules | `(tactic| walk_at "z") => `(tactic| with_reducible refine z_pti ?_)
local macro_rules | `(tactic| walk_at "z") => `(tactic| with_reducible refine z_catI ?_)
local macro_rules | `(tactic| walk_at "z") => `(tactic| with_reducible refine z_isNI ?_)
local macro_rules | `(tactic| walk_at "z") => `(tactic| with_reducible refine z_isNN ?_)
local macro_rules | `(tactic| walk_at "z") => `(tactic| with_reducible refine z_notNI ?_)
local macro_rules | `(tactic| walk_at "z") => `(tactic| with_reducible refine z_notNN ?_)
local macro_rules | `(tactic| walk_at "z") => `(tactic| with_reducible refine z_gsub ?_)
local macro_rules | `(tactic| walk_at "z") => `(tactic| with_reducible refine z_isNb ?_)
local macro_rules | `(tactic| walk_at "z") => `(tactic| with_reducible refine z_notNb ?_)
local macro_rules | `(tactic| walk_at "z") => `(tactic| ((with_reducible refine' z_nlR ?zl1 ?_); (case zl1 => exact Nat.le_of_ble_eq_true rfl); intro p H' hp hs he))
local macro_rules | `(tactic| walk_at "z") => `(tactic| ((with_reducible refine' z_repR ?zl1 ?zl2 ?_); (case zl1 => omega); (case zl2 => omega)))
local macro_rules | `(tactic| walk_at "z") => `(tactic| ((with_reducible refine' z_repL ?zl1 ?zl2 ?_); (case zl1 => omega); (case zl2 => omega)))
local macro_rules | `(tactic| walk_at "z") => `(tactic| ((with_reducible refine' z_lenLst ?zl1 ?_); (case zl1 => walk_at "up")))
local macro_rules | `(tactic| walk_at "z") => `(tactic| ((with_reducible refine' z_cat ?zl1 ?zl2 ?zl3 ?_); (case zl1 => walk_at "up"); (case zl2 => walk_at "up"); (case zl3 => (simp only [List.length_map, List.length_cons, List.length_nil, List.length_append, List.length_replicate]; omega)); intro p H' hp hs he))
local macro_rules | `(tactic| walk_at "z") => `(tactic| with_reducible refine z_sfl ?_)
local macro_rules | `(tactic| walk_at "z") => `(tactic| with_reducible refine z_lcES ?_)
local macro_rules | `(tactic| walk_at "z") => `(tactic| with_reducible refine z_lcMS ?_)
local macro_rules | `(tactic| walk_at "z") => `(tactic| with_reducible refine z_foES ?_)
local macro_rules | `(tactic| walk_at "z") => `(tactic| with_reducible refine z_fo3S ?_)
local macro_rules | `(tactic| walk_at "z") => `(tactic| with_reducible refine z_sta ?_)
local macro_rules | `(tactic| walk_at "z") => `(tactic| with_reducible refine z_sta1 ?_)
local macro_rules | `(tactic| walk_at "z") => `(tactic| with_reducible refine z_lcTS ?_)
local macro_rules | `(tactic| walk_at "z") => `(tactic| with_reducible refine z_foTS ?_)
local macro_rules | `(tactic| walk_at "z") => `(tactic| with_reducible refine z_revTS ?_)
local macro_rules | `(tactic| walk_at "z") => `(tactic| with_reducible refine z_max2 ?_)
local macro_rules | `(tactic| walk_at "z") => `(tactic| with_reducible refine z_fldS ?_)
local macro_rules | `(tactic| walk_at "z") => `(tactic| ((with_reducible refine' z_fdt ?zc1 ?zc2 ?zl2 ?_); (case zc1 => exact Lw.cl_Ratio (by assumption)); (case zc2 => exact Lw.na_Ratio_top (by assumption)); (case zl2 => walk_at "up")))
local macro_rules | `(tactic| walk_at "z") => `(tactic| ((with_reducible refine' z_fdb ?zc1 ?zc2 ?zl2 ?_); (case zc1 => exact Lw.cl_Ratio (by assumption)); (case zc2 => exact Lw.na_Ratio_bottom (by assumption)); (case zl2 => walk_at "up")))
local macro_rules | `(tactic| walk_at "z") => `(tactic| ((with_reducible refine' z_fldt ?zc1 ?zc2 ?zl1 ?zl2 ?_); (case zc1 => exact Lw.cl_Ratio (by assumption)); (case zc2 => exact Lw.na_Ratio_top (by assumption)); (case zl1 => exact rfl); (case zl2 => walk_at "up")))
local macro_rules | `(tactic| walk_at "z") => `(tactic| ((with_reducible refine' z_fldb ?zc1 ?zc2 ?zl1 ?zl2 ?_); (case zc1 => exact Lw.cl_Ratio (by assumption)); (case zc2 => exact Lw.na_Ratio_bottom (by assumption)); (case zl1 => exact rfl); (case zl2 => walk_at "up")))
local macro_rules | `(tactic| walk_at "z") => `(tactic| ((with_reducible refine' z_fldG ?zc1 ?zc2 ?zl0 ?zl1 ?zl2 ?_); (case zc1 => exact Lw.cl_Poly (by assumption)); (case zc2 => exact Lw.na_Poly_numbers (by assumption)); (case zl0 => exact rfl); (case zl1 => walk_at "up"); (case zl2 => exact lkA)))
local macro_rules | `(tactic| walk_at "z") => `(tactic| ((with_reducible refine' z_fldG ?zc1 ?zc2 ?zl0 ?zl1 ?zl2 ?_); (case zc1 => exact Lw.cl_Poly (by assumption)); (case zc2 => exact Lw.na_Poly_over (by assumption)); (case zl0 => exact rfl); (case zl1 => walk_at "up"); (case zl2 => exact lkO)))
local macro_rules | `(tactic| walk_at "z") => `(tactic| ((with_reducible refine' z_fldG ?zc1 ?zc2 ?zl0 ?zl1 ?zl2 ?_); (case zc1 => exact Lw.cl_Poly (by assumption)); (case zc2 => exact Lw.na_Poly_degree (by assumption)); (case zl0 => exact rfl); (case zl1 => walk_at "up"); (case zl2 => exact lkD)))
local macro_rules | `(tactic| walk_at "z") => `(tactic| ((with_reducible refine' z_glst ?zl1 ?zl2 ?_); (case zl1 => walk_at "up"); (case zl2 => exact rfl)))
local macro_rules | `(tactic| walk_at "z") => `(tactic| ((with_reducible refine' z_ixLst ?zl1 ?zl2 ?_); (case zl1 => walk_at "up"); (case zl2 => exact rfl)))
local macro_rules | `(tactic| walk_at "z") => `(tactic| ((with_reducible refine' u_mtV ?zl1 ?_); (case zl1 => walk_at "up")))
local macro_rules | `(tactic| walk_at "z") => `(tactic| ((with_reducible refine' u_mtQP ?zl1 ?_); (case zl1 => walk_at "up")))
local macro_rules | `(tactic| walk_at "z") => `(tactic| ((with_reducible refine' z_fldG ?zc1 ?zc2 ?zl0 ?zl1 ?zl2 ?_); (case zc1 => exact Lw.cl_SixClaim (by assumption)); (case zc2 => exact Lw.na_SixClaim_letters (by assumption)); (case zl0 => exact rfl); (case zl1 => walk_at "up"); (case zl2 => exact lkA)))
local macro_rules | `(tactic| walk_at "z") => `(tactic| ((with_reducible refine' z_fldG ?zc1 ?zc2 ?zl0 ?zl1 ?zl2 ?_); (case zc1 => exact Lw.cl_SixClaim (by assumption)); (case zc2 => exact Lw.na_SixClaim_numbers (by assumption)); (case zl0 => exact rfl); (case zl1 => walk_at "up"); (case zl2 => exact (lkB (by decide +kernel) lkA))))
local macro_rules | `(tactic| walk_at "z") => `(tactic| ((with_reducible refine' z_fldG ?zc1 ?zc2 ?zl0 ?zl1 ?zl2 ?_); (case zc1 => exact Lw.cl_SixPaper (by assumption)); (case zc2 => exact Lw.na_SixPaper_block (by assumption)); (case zl0 => exact rfl); (case zl1 => walk_at "up"); (case zl2 => exact lkA)))
local macro_rules | `(tactic| walk_at "z") => `(tactic| ((with_reducible refine' z_fldG ?zc1 ?zc2 ?zl0 ?zl1 ?zl2 ?_); (case zc1 => exact Lw.cl_SixPaper (by assumption)); (case zc2 => exact Lw.na_SixPaper_amount (by assumption)); (case zl0 => exact rfl); (case zl1 => walk_at "up"); (case zl2 => exact (lkB (by decide +kernel) lkA))))
local macro_rules | `(tactic| walk_at "z") => `(tactic| ((with_reducible refine' z_fldG ?zc1 ?zc2 ?zl0 ?zl1 ?zl2 ?_); (case zc1 => exact Lw.cl_SixPaper (by assumption)); (case zc2 => exact Lw.na_SixPaper_rest (by assumption)); (case zl0 => exact rfl); (case zl1 => walk_at "up"); (case zl2 => exact (lkB (by decide +kernel) (lkB (by decide +kernel) lkA)))))
local macro_rules | `(tactic| walk_at "z") => `(tactic| ((with_reducible refine' u_mtSC ?zl1 ?_); (case zl1 => walk_at "up")))
local macro_rules | `(tactic| walk_at "z") => `(tactic| with_reducible refine z_eqB ?_)
local macro_rules | `(tactic| walk_at "z") => `(tactic| with_reducible refine z_isB ?_)
local macro_rules | `(tactic| walk_at "z") => `(tactic| with_reducible refine u_whole1 ?_)
theorem same62d {H H1 H2 : Hp} (h : Same H1 H2) (e : Same H H1) : Same H H2 := e.trans h
local macro_rules | `(tactic| walk_at "sm") => `(tactic| first
  | assumption
  | exact fun _ _ h => h
  | (refine' same62d (by assumption) ?zsm; case zsm => walk_at "sm"))
local macro_rules | `(tactic| walk_at "up") => `(tactic| first
  | assumption
  | (with_reducible refine' IsR.mono (by assumption) ?zup; case zup => walk_at "up")
  | (with_reducible refine' IsV.mono (by assumption) ?zup; case zup => walk_at "up")
  | (with_reducible refine' IsQ.mono (by assumption) ?zup; case zup => walk_at "up")
  | (with_reducible refine' QP.mono (by assumption) ?zup; case zup => walk_at "up")
  | (with_reducible refine' R3.mono (by assumption) ?zup; case zup => walk_at "up")
  | (with_reducible refine' Same.at (by assumption) ?zup; case zup => walk_at "up")
  | (with_reducible refine' Fr.mono (by assumption) ?zup; case zup => walk_at "up")
  | (with_reducible refine' FS.mono (by assumption) ?zup; case zup => walk_at "up")
  | (with_reducible refine' IsSC.mono (by assumption) ?zup; case zup => walk_at "up")
  | (with_reducible refine' L3.mono (by assumption) ?zup; case zup => walk_at "up")
  | (with_reducible refine' L4.mono (by assumption) ?zup; case zup => walk_at "up")
  | (with_reducible refine' PU.mono (by assumption) ?zup; case zup => walk_at "up")
  | (with_reducible refine' IsPool.mono (by assumption) ?zup; case zup => walk_at "up")
  | (with_reducible refine' IsSix.mono (by assumption) ?zup; case zup => walk_at "up")
  | (with_reducible refine' Says.mono (by assumption) ?zup; case zup => walk_at "up")
  | (refine' And.left ?zup; case zup => assumption)
  | fail)
section
variable {P : Program} {w : World} {K : Frag} {mg : Str → Option Value} {base : Heap}
theorem ok_law_claim (L : Lw K mg) {fd : FuncData} (F : FunD K "_law_claim" "_law_claim" (defArgs s_law_claim) (defBody s_law_claim) (defScope s_law_claim) (df_law_claim.dvs K) (df_law_claim.kws K) (He.fAd K ("_law_claim", none)) fd) : FnOk P w K mg base (L2N.CX P w) 6 (He.fAd K ("_law_claim", none)) fd (["n", "q"] : List Str) (sp2 (fs_lcl K)) := by
  refine FunD.ok F sc_law_claim len2 (fun cdv A outer s H vs Q E hr h => ?_)
  obtain ⟨x, y, rfl, h⟩ := h
  refine ⟨_, (pss_one (ps_ret (pe_mk (c_SixClaimD_initD (K := K) L) hr (by decide) (L2N.takes_of rfl rfl rfl rfl) (pa_cons (pv 0) (pa_cons (pe_lc (own := [("i", 2)]) (g := (gName 2)) (tt := tYes) rfl sc_law_claim.nd (pi_range1 (by rfl) L.f_range (pa_cons pe_int pa_nil)) (blkOk_by (N := ["n", "q", "i"]) (sc := defScope s_law_claim) (by decide +kernel)) (fun _ _ _ _ _ => pg_name (i := 2) sc_law_claim.nd rfl (Or.inl rfl)) (fun _ _ _ _ _ => pts_nil) (fun _ _ _ _ _ => (pe_mk (c_RatioD_initD (K := K) L) hr (by decide) takesF (pa_cons (pe_ix (ix_seqK (K := K) rfl) (pv 1) (pv 2) (fun _ _ => rfl)) (pa_cons (pe_ix (ix_seqK (K := K) rfl) (pv 1) pe_int (fun _ _ => rfl)) pa_nil))))) pa_nil))))), ?_⟩
  rw [show L2.start (["n", "q", "i"] : List Str) [x, y] = [some x, some y, none] from rfl]
  obtain ⟨n, A, B, C, w, l, rfl, rfl, ⟨hl, ba, bb, bc, w0, bw⟩, n1, n2, k⟩ := h
  try dsimp only [List.set]
  walk_at "zz"
  refine z_lcRP (itW K (fun k => (cf [A, B, C] k : Rat) / w) 390) itW_mono (by decide) (by decide) (fun i H2 N2 hi s2 cc => ⟨rfl, ?_⟩) (fun D HD hD sD hlD => ?_)
  · have i3 : i < 3 := hi
    have hl2 := s2 _ _ hl
    try dsimp only [List.set]
    walk_at "zz"
    refine z_ixLst hl2 (at43 i3) ?_
    try dsimp only [List.set]
    walk_at "zz"
    exact u_mkW w0 (cf3b ba bb bc i) bw (over_mul w0) (fun q H4 s4 hq => cc _ _ s4 ⟨q, rfl, hq⟩)
  obtain ⟨xs, e1, e2, e3⟩ := hlD
  obtain ⟨y0, y1, y2, rfl⟩ := three_ex e2
  obtain ⟨a0, rfl, f0⟩ := e3 0 y0 rfl
  obtain ⟨a1, rfl, f1⟩ := e3 1 y1 rfl
  obtain ⟨a2, rfl, f2⟩ := e3 2 y2 rfl
  try dsimp only [List.set]
  walk_at "zz"
  exact u_mkSC e1 f0 f1 f2 n1 n2 (fun x H1 s1 hx => k x H1 (sD.trans s1) hx)
theorem c_law_claim (L : Lw K mg) : Cal P w K mg base 6 "_law_claim" (sp2 (fs_lcl K)) [] := by
  obtain ⟨fd, F⟩ := L.d_law_claim
  exact ⟨⟨_, fd, ["n", "q"], [], ok_law_claim L F, L.g_law_claim, F.kp, F.bindsN (fun _ _ _ _ _ _ us hl => match us, hl with | [_, _], _ => rfl), .nil⟩⟩
theorem ok_law_made (L : Lw K mg) {fd : FuncData} (F : FunD K "_law_made" "_law_made" (defArgs s_law_made) (defBody s_law_made) (defScope s_law_made) (df_law_made.dvs K) (df_law_made.kws K) (He.fAd K ("_law_made", none)) fd) : FnOk P w K mg base (L2N.CX P w) 6 (He.fAd K ("_law_made", none)) fd (["k", "part", "rest", "low"] : List Str) (sp4 (fs_lmk K)) := by
  refine FunD.ok F sc_law_made len4 (fun cdv A outer s H vs Q E hr h => ?_)
  obtain ⟨x, y, z, t, rfl, h⟩ := h
  refine ⟨_, (pss_one (ps_ret (pe_mk (c_SixPaperD_initD (K := K) L) hr (by decide) (L2N.takes_of rfl rfl rfl rfl) (pa_cons (pv 0) (pa_cons (pe_mk (c_RatioD_initD (K := K) L) hr (by decide) (L2N.takes_of rfl rfl rfl rfl) (pa_cons (pe_ix (ix_seqK (K := K) rfl) (pv 1) pe_int (fun _ _ => rfl)) (pa_cons (pe_ix (ix_seqK (K := K) rfl) (pv 1) pe_int (fun _ _ => rfl)) pa_nil))) (pa_cons (pe_mk (c_PolyD_initD (K := K) L) hr (by decide) (L2N.takes_of rfl rfl rfl rfl) (pa_cons (pe_callTy (callK rList1 (K := K) rfl o_list1) (by rfl) L.f_list (by decide +kernel) (pa_cons (pv 2) pa_nil)) (pa_cons (pv 3) pa_nil))) pa_nil)))))), ?_⟩
  rw [show L2.start (["k", "part", "rest", "low"] : List Str) [x, y, z, t] = [some x, some y, some z, some t] from rfl]
  obtain ⟨k, u, b, low, p, r, ns, rfl, rfl, rfl, rfl, ⟨hp, bu, b0, bb⟩, k0, k1, l0, bl, hr, hn, q⟩ := h
  try dsimp only [List.set]
  walk_at "zz"
  refine u_mkF (T := u) (w := b) b0 (bb.up (by decide)) rfl (fun w H1 s1 fw => ?_)
  have hr1 := s1 _ _ hr
  try dsimp only [List.set]
  walk_at "zz"
  refine z_listL (SqL.of hr1) (fun c H2 hc s2 ec => ?_)
  try dsimp only [List.set]
  walk_at "zz"
  refine u_mkP ec (by omega) (by omega) (bl.up (by decide)) (fun v H3 ls o s3 hI hLw => ?_)
  try dsimp only [List.set]
  walk_at "zz"
  exact u_mkSix k0 k1 (fun s H4 s4 hs => q s w v ls o H4 (((s1.trans s2).trans s3).trans s4) hs (((fw.mono s2).mono s3).mono s4) (hI.mono s4) hLw)
theorem c_law_made (L : Lw K mg) : Cal P w K mg base 6 "_law_made" (sp4 (fs_lmk K)) [] := by
  obtain ⟨fd, F⟩ := L.d_law_made
  exact ⟨⟨_, fd, ["k", "part", "rest", "low"], [], ok_law_made L F, L.g_law_made, F.kp, F.bindsN (fun _ _ _ _ _ _ us hl => match us, hl with | [_, _, _, _], _ => rfl), .nil⟩⟩
theorem ok_law_sum (L : Lw K mg) {fd : FuncData} (F : FunD K "_law_sum" "_law_sum" (defArgs s_law_sum) (defBody s_law_sum) (defScope s_law_sum) (df_law_sum.dvs K) (df_law_sum.kws K) (He.fAd K ("_law_sum", none)) fd) : FnOk P w K mg base (L2N.CX P w) 2 (He.fAd K ("_law_sum", none)) fd (["n", "k", "part", "rest", "low"] : List Str) (sp5 fs_sum) := by
  refine FunD.ok F sc_law_sum len5 (fun cdv A outer s H vs Q E hr h => ?_)
  obtain ⟨x, y, z, t, v, rfl, h⟩ := h
  refine ⟨_, (pss_cons (ps_set (i := 5) sc_law_sum.nd rfl (by first | exact Or.inl rfl | exact Or.inr rfl) (pe_c (c_law_block (K := K) L) hr (by decide) (L2N.takes_of rfl rfl rfl rfl) (pa_cons (pv 0) (pa_cons (pv 1) pa_nil))))
    (pss_cons (ps_asg (pv 2) (pg_lst (by rfl) (pgs_cons (pg_name (i := 6) sc_law_sum.nd rfl (by first | exact Or.inl rfl | exact Or.inr rfl)) (pgs_cons (pg_name (i := 7) sc_law_sum.nd rfl (by first | exact Or.inl rfl | exact Or.inr rfl)) pgs_nil))))
    (pss_cons (ps_setLc (i := 8) (own := [("i", 9)]) (g := (gName 9)) (tt := tYes) rfl sc_law_sum.nd rfl rfl (sw_true rfl rfl rfl (by decide +kernel)) (pi_range1 (by rfl) L.f_range (pa_cons pe_int pa_nil)) (blkOk_by (N := ["n", "k", "part", "rest", "low", "cut", "u", "b", "tops", "i"]) (sc := defScope s_law_sum) (by decide +kernel)) (fun _ _ _ _ _ => pg_name (i := 9) sc_law_sum.nd rfl (Or.inl rfl)) (fun _ _ _ _ _ => pts_nil) (fun _ _ _ _ _ => (pe_op o_cat (pe_op o_rep (pe_ix (ix_seqK (K := K) rfl) (pv 3) (pv 9) (fun _ _ => rfl)) (pv 7)) (pe_op o_rep (pe_op o_rep (pv 6) (pe_ix (ix_seqK (K := K) rfl) (pv 5) (pv 9) (fun _ _ => rfl))) (pv 4)))))
    (pss_one (ps_ret (pe_op o_cat (pv 8) (pe_lst (pa_cons (pe_op o_rep (pv 4) (pv 7)) pa_nil)))))))), ?_⟩
  rw [show L2.start (["n", "k", "part", "rest", "low", "cut", "u", "b", "tops", "i"] : List Str) [x, y, z, t, v] = [some x, some y, some z, some t, some v, none, none, none, none, none] from rfl]
  obtain ⟨n, k, u, b, r0, r1, r2, low, p, r, N, rfl, rfl, rfl, rfl, rfl, ⟨hp, bu, b0, bb⟩, ⟨hr2, c0, c1, c2⟩, N1, N2, k0, k1, n1, n2, l0, bl, q⟩ := h
  try dsimp only [List.set]
  walk_at "zz"
  refine ⟨_, _, rfl, n, k, rfl, rfl, by omega, by omega, fun lc H1 s1 h1 => ?_⟩
  have hp1 := s1 _ _ hp
  have hr1 := s1 _ _ hr2
  obtain ⟨ja, jb, jc⟩ := j17 k0 k1 n1 n2
  try dsimp only [List.set]
  walk_at "zz"
  refine z_lcRP (fun _ x i => x = .int (cf [r0, r1, r2] i * b + u * cf [jA k n, jB k n, jC k] i * low)) (fun _ _ _ _ _ h => h) (by decide) (by decide) (fun i H2 N2 hi s2 cc => ⟨rfl, ?_⟩) (fun D HD hD sD hlD => ?_)
  · have i3 : i < 3 := hi
    have hr3 := s2 _ _ hr1
    have h13 := s2 _ _ h1
    try dsimp only [List.set]
    walk_at "zz"
    refine z_ixLst hr3 (at33 i3) ?_
    try dsimp only [List.set]
    walk_at "zz"
    refine z_repU0 (cf3b c0 c1 c2 i) bb (by omega) ?_
    try dsimp only [List.set]
    walk_at "zz"
    refine z_ixLst h13 (at33 i3) ?_
    try dsimp only [List.set]
    walk_at "zz"
    refine z_repU0 bu (cf3b ja jb jc i) (by decide) ?_
    try dsimp only [List.set]
    walk_at "zz"
    refine z_repU0 (bu.mul (cf3b ja jb jc i)) bl (by decide) ?_
    try dsimp only [List.set]
    walk_at "zz"
    exact cc _ _ (fun _ _ h => h) rfl
  obtain ⟨xs, e1, e2, e3⟩ := hlD
  obtain ⟨y0, y1, y2, rfl⟩ := three_ex e2
  obtain rfl := e3 0 y0 rfl
  obtain rfl := e3 1 y1 rfl
  obtain rfl := e3 2 y2 rfl
  try dsimp only [List.set]
  walk_at "zz"
  refine z_repU0 bl bb (by decide) ?_
  try dsimp only [List.set]
  walk_at "zz"
  rename_i p1 H3 hp3 s3 e4 p2 H4 hp4 s4 e5
  have bd : ∀ {x j : Int}, Bits N x → Bits 17 j → Bits (N + 10) (x * b + u * j * low) := fun hx hj => (Bits.add (a := N + 5) (hx.mul bb) (((bu.mul hj).mul bl).up (by omega))).up (by omega)
  exact q p2 H4 (((s1.trans sD).trans s3).trans s4) ⟨e5, bd c0 ja, bd c1 jb, bd c2 jc, Int.mul_pos l0 b0, (bl.mul bb).up (by decide)⟩
theorem c_law_sum (L : Lw K mg) : Cal P w K mg base 2 "_law_sum" (sp5 fs_sum) [] := by
  obtain ⟨fd, F⟩ := L.d_law_sum
  exact ⟨⟨_, fd, ["n", "k", "part", "rest", "low"], [], ok_law_sum L F, L.g_law_sum, F.kp, F.bindsN (fun _ _ _ _ _ _ us hl => match us, hl with | [_, _, _, _, _], _ => rfl), .nil⟩⟩
theorem ok_law_says (L : Lw K mg) {fd : FuncData} (F : FunD K "_law_says" "_law_says" (defArgs s_law_says) (defBody s_law_says) (defScope s_law_says) (df_law_says.dvs K) (df_law_says.kws K) (He.fAd K ("_law_says", none)) fd) : FnOk P w K mg base (L2N.CX P w) 11 (He.fAd K ("_law_says", none)) fd (["claim", "paper", "due"] : List Str) (sp3 (fs_says K)) := by
  refine FunD.ok F sc_law_says len3 (fun cdv A outer s H vs Q E hr h => ?_)
  obtain ⟨x, y, z, rfl, h⟩ := h
  refine ⟨_, (pss_cons (ps_if (pt_not (pt_val (pe_c (c_law_flag (K := K) L) hr (by decide) (L2N.takes_of rfl rfl rfl rfl) (pa_cons (pe_orE (pe_mt (c_SixPaper_shows (K := K) L) hr (by decide) (L2N.takes_of rfl rfl rfl rfl) (pv 1) (pa_cons (pv 0) pa_nil)) (pe_mt (c_CutPaper_shows (K := K) L) hr (by decide) (L2N.takes_of rfl rfl rfl rfl) (pv 1) (pa_cons (pv 0) pa_nil))) (pa_cons (pv 2) pa_nil))))) (pss_one (ps_ret pe_bl)) pss_nil)
    (pss_one (ps_ret (pe_c (c_law_flag (K := K) L) hr (by decide) (L2N.takes_of rfl rfl rfl rfl) (pa_cons (pe_c (c_judge (K := K) L) hr (by decide) (L2N.takes_of rfl rfl rfl rfl) (pa_cons (pv 0) (pa_cons (pv 1) pa_nil))) (pa_cons (pv 2) pa_nil)))))), ?_⟩
  rw [show L2.start (["claim", "paper", "due"] : List Str) [x, y, z] = [some x, some y, some z] from rfl]
  obtain ⟨cl, s, due, rfl, rfl, rfl, h, q⟩ := h
  rcases h with h | h
  · have hi : ∃ dx fs, H s = some (.ins (He.ga K "SixPaper") dx fs) ∧ fs.lookup ("shows" : Str) = none := by
      rcases h with h | h | h
      · obtain ⟨_, _, _, _, _, _, _, _, _, _, _, _, ⟨dx, hs⟩, _⟩ := h
        exact ⟨dx, _, hs, rfl⟩
      · obtain ⟨_, _, _, _, _, _, ⟨dx, hs⟩, _⟩ := h
        exact ⟨dx, _, hs, rfl⟩
      · obtain ⟨_, _, _, _, _, _, _, _, _, _, _, ⟨dx, hs⟩, _⟩ := h
        exact ⟨dx, _, hs, rfl⟩
    obtain ⟨dx, fs, hs, hf⟩ := hi
    try dsimp only [List.set]
    walk_at "zz"
    refine z_orL ?_
    try dsimp only [List.set]
    walk_at "zz"
    refine ⟨s, dx, _, rfl, hs, hf, ?_⟩
    try dsimp only [List.set]
    walk_at "zz"
    refine ⟨_, _, rfl, s, cl, due, rfl, rfl, h, fun H1 s1 => ?_⟩
    try dsimp only [List.set]
    walk_at "zz"
    refine ⟨_, _, rfl, due, rfl, rfl, ?_⟩
    try dsimp only [List.set]
    walk_at "zz"
    refine ⟨_, _, rfl, s, cl, due, rfl, rfl, (Says.mono s1 (Or.inl h)), fun H2 s2 => ?_⟩
    try dsimp only [List.set]
    walk_at "zz"
    exact ⟨_, _, rfl, due, rfl, rfl, q _ (s1.trans s2)⟩
  · obtain ⟨n, a, b, c, B, dx, fs, hs, hsc, hf, e⟩ := id h
    try dsimp only [List.set]
    walk_at "zz"
    refine z_orR ?_
    try dsimp only [List.set]
    walk_at "zz"
    refine ⟨s, dx, _, rfl, hs, hf, ?_⟩
    try dsimp only [List.set]
    walk_at "zz"
    refine ⟨_, _, rfl, s, cl, due, rfl, rfl, h, fun H1 s1 => ?_⟩
    try dsimp only [List.set]
    walk_at "zz"
    refine ⟨_, _, rfl, due, rfl, rfl, ?_⟩
    try dsimp only [List.set]
    walk_at "zz"
    refine ⟨_, _, rfl, s, cl, due, rfl, rfl, (Says.mono s1 (Or.inr h)), fun H2 s2 => ?_⟩
    try dsimp only [List.set]
    walk_at "zz"
    exact ⟨_, _, rfl, due, rfl, rfl, q _ (s1.trans s2)⟩
theorem c_law_says (L : Lw K mg) : Cal P w K mg base 11 "_law_says" (sp3 (fs_says K)) [] := by
  obtain ⟨fd, F⟩ := L.d_law_says
  exact ⟨⟨_, fd, ["claim", "paper", "due"], [], ok_law_says L F, L.g_law_says, F.kp, F.bindsN (fun _ _ _ _ _ _ us hl => match us, hl with | [_, _, _], _ => rfl), .nil⟩⟩
end
end T
set_option maxHeartbeats 4000000
namespace T
open PySem PySem.Spec PyProof.Rows L2 Z
open S31 (cf)
open S30
theorem LowT.last {ns ls : List Int} {o o' : Int} (h : LowT ns o ls o') (m : Nat) (hn : ns.length = m + 1) (ho : 0 < o) (nz : cf ns m ≠ 0) : ls.length = m + 1 := by
  obtain ⟨c, c0, e, _⟩ := h.ex
  have l := h.len
  by_cases q : m < ls.length
  · omega
  · exact absurd (by rw [e, S31.cf_out (by omega), Int.mul_zero]) nz
theorem QP.low {K : Frag} {H : Hp} {p : Addr} {r0 r1 r2 low : Int} {ls : List Int} {o : Int} (h : IsQ K H p ls o) (lw : LowT [r0, r1, r2] low ls o) (l0 : 0 < low) (bl : Bits 5 low) (b0 : Bits 290 r0) (b1 : Bits 290 r1) (b2 : Bits 290 r2) : QP K H p ((r0 : Rat) / low) ((r1 : Rat) / low) ((r2 : Rat) / low) 300 :=
  QP.of h lw l0 (Nat.le_refl 3) (bl.up (by decide)) (fun k => (cf3b b0 b1 b2 k).up (by decide)) (over_mul l0) (over_mul l0) (over_mul l0)
def fs_lask (K : Frag) : F7 := fun x1 x2 x3 x4 x5 x6 x7 H Q _ => ∃ (n k A B C w u b r0 r1 r2 low : Int) (q p r : Addr) (due : Bool), x1 = .int n ∧ x2 = .ref q ∧ x3 = .int k ∧ x4 = .ref p ∧ x5 = .ref r ∧ x6 = .int low ∧ x7 = .bl due ∧
  L4 H q A B C w 390 ∧ PU H p u b ∧ L3 H r r0 r1 r2 290 ∧ 0 ≤ k ∧ k ≤ 200 ∧ 2 ≤ n ∧ n ≤ 200 ∧ 0 < low ∧ Bits 5 low ∧ (due = true ↔ Shw k n ((A : Rat) / w) ((B : Rat) / w) ((C : Rat) / w) ((u : Rat) / b) ((r0 : Rat) / low) ((r1 : Rat) / low) ((r2 : Rat) / low)) ∧ ∀ H', Same H H' → Q (.bl true) H'
theorem u_flg {H : Hp} {Q : VK} {E : XK} {b : Bool} (q : Q (.bl true) H) : sp2 fs_flag [.bl b, .bl b] H Q E := ⟨_, _, rfl, b, rfl, rfl, q⟩
/-- the block's numbers, in fractions -/
theorem jcast (k n : Int) : ((jA k n : Int) : Rat) = bA k n ∧ ((jB k n : Int) : Rat) = bB k n ∧ ((jC k : Int) : Rat) = bC k := by
  unfold jA jB jC bA bB bC
  refine ⟨?_, ?_, ?_⟩
  · split
    · exact Rat.intCast_neg _
    · rw [Rat.intCast_mul, Rat.intCast_add]
      rfl
  · split
    · rw [Rat.intCast_add]
      rfl
    · rw [Rat.intCast_sub, Rat.intCast_mul]
      rfl
  · split <;> rfl
theorem sum_over {r b u j low : Int} (b0 : 0 < b) (l0 : 0 < low) : ((r * b + u * j * low : Int) : Rat) / ((low * b : Int) : Rat) = (r : Rat) / low + (j : Rat) * ((u : Rat) / b) := by
  have h1 := ne_cast (show b ≠ 0 by omega)
  have h2 := ne_cast (show low ≠ 0 by omega)
  rw [Rat.intCast_add, Rat.intCast_mul, Rat.intCast_mul, Rat.intCast_mul, Rat.intCast_mul]
  grind
theorem dv_ge {u b : Int} (b0 : 0 < b) : 0 ≤ ((u : Rat) / b) ↔ 0 ≤ u := by
  have p : (0 : Rat) < b := S66.c_lt.mpr b0
  have e := over_mul (A := u) b0
  constructor
  · intro h
    refine S66.c_le.mp ?_
    rw [e]
    exact Rat.mul_nonneg h (Rat.le_of_lt p)
  · intro h
    have : 0 ≤ (u : Rat) := S66.c_le.mpr h
    refine Rat.not_lt.mp fun g => ?_
    have g2 : (u : Rat) / b * b < 0 := by
      have := Rat.mul_pos (show 0 < -((u : Rat) / b) by grind) p
      grind
    rw [← e] at g2
    grind
/-- what is built is shown if and only if .. -/
theorem shw_sum {k n u b r0 r1 r2 low : Int} (b0 : 0 < b) (l0 : 0 < low) : Shw k n (((r0 * b + u * jA k n * low : Int) : Rat) / ((low * b : Int) : Rat)) (((r1 * b + u * jB k n * low : Int) : Rat) / ((low * b : Int) : Rat)) (((r2 * b + u * jC k * low : Int) : Rat) / ((low * b : Int) : Rat)) ((u : Rat) / b) ((r0 : Rat) / low) ((r1 : Rat) / low) ((r2 : Rat) / low) ↔
    k < n ∧ 0 ≤ u ∧ ∀ t, 0 ≤ S66.rv ((r0 : Rat) / low) ((r1 : Rat) / low) ((r2 : Rat) / low) t := by
  obtain ⟨i1, i2, i3⟩ := jcast k n
  unfold Shw
  rw [sum_over b0 l0, sum_over b0 l0, sum_over b0 l0, i1, i2, i3, dv_ge b0]
  constructor
  · rintro ⟨h1, h2, h3, _⟩
    exact ⟨h1, h2, h3⟩
  · rintro ⟨h1, h2, h3⟩
    exact ⟨h1, h2, h3, rfl, rfl, rfl⟩
def fs_built (K : Frag) : F7 := fun x1 x2 x3 x4 x5 x6 x7 H Q _ => ∃ (n k u b r0 r1 r2 low : Int) (p r : Addr) (due truth : Bool), x1 = .int n ∧ x2 = .int k ∧ x3 = .ref p ∧ x4 = .ref r ∧ x5 = .int low ∧ x6 = .bl due ∧ x7 = .bl truth ∧
  PU H p u b ∧ L3 H r r0 r1 r2 290 ∧ 0 ≤ k ∧ k ≤ 200 ∧ 2 ≤ n ∧ n ≤ 200 ∧ 0 < low ∧ Bits 5 low ∧ (due = true ↔ k < n ∧ 0 ≤ u ∧ ∀ t, 0 ≤ S66.rv ((r0 : Rat) / low) ((r1 : Rat) / low) ((r2 : Rat) / low) t) ∧ ∀ H', Same H H' → Q (.bl true) H'
theorem b_iff {a b : Bool} (h : a = true ↔ b = true) : a = b := by
  cases a <;> cases b <;> simp_all
local macro_rules | `(tactic| walk_at "up") => `(tactic| first
  | assumption
  | (refine' IsR.mono (by assumption) ?zup; case zup => walk_at "up")
  | (refine' IsE.mono (by assumption) ?zup; case zup => walk_at "up")
  | (refine' Same.at (by assumption) ?zup; case zup => walk_at "up")
  | (refine' SqL.of ?zup; case zup => walk_at "up")
  | (refine' L2.Same.seq (by assumption) ?zup; case zup => walk_at "up"))
local macro_rules | `(tactic| walk_at "z") => `(tactic| first
  | ((with_reducible refine' z_var ?zvh ?_); (case zvh => exact rfl))
  | with_reducible refine z_c ?_
  | with_reducible refine z_cons ?_
  | with_reducible refine z_nil ?_
  | with_reducible refine z_op ?_
  | with_reducible refine z_nx ?_
  | with_reducible refine z_seq ?_
  | with_reducible refine z_asg ?_
  | with_reducible refine z_asgG ?_
  | with_reducible refine z_call ?_
  | with_reducible refine z_sq0 ?_
  | with_reducible refine z_sq1 ?_
  | with_reducible refine z_ifS ?_
  | with_reducible refine z_test ?_
  | with_reducible refine z_tb ?_
  | with_reducible refine z_bl ?_
  | with_reducible refine z_blI ?_
  | with_reducible refine z_ret ?_
  | with_reducible refine z_rt ?_
  | with_reducible refine z_T ?_
  | with_reducible refine z_F ?_
  | with_reducible refine z_add ?_
  | with_reducible refine z_sub ?_
  | with_reducible refine z_neg ?_
  | with_reducible refine z_un ?_
  | with_reducible refine z_eqI ?_
  | with_reducible refine z_neI ?_
  | with_reducible refine z_lt ?_
  | with_reducible refine z_le ?_
  | with_reducible refine z_gt ?_
  | with_reducible refine z_ge ?_
  | with_reducible refine z_not ?_
  | with_reducible refine z_and ?_
  | with_reducible refine z_or ?_
  | with_reducible refine z_andV ?_
  | with_reducible refine z_orV ?_
  | with_reducible refine z_notV ?_
  | with_reducible refine z_if ?_
  | with_reducible refine z_cb ?_
  | with_reducible refine z_int1 ?_
  | with_reducible refine z_intb ?_
  | with_reducible refine z_abs ?_
  | with_reducible refine z_gcd ?_
  | with_reducible refine z_isi_ii ?_
  | with_reducible refine z_isi_ib ?_
  | with_reducible refine z_next ?_
  | with_reducible refine z_drop ?_
  | with_reducible refine z_par ?_
  | with_reducible refine z_par2 ?_
  | with_reducible refine z_tupN ?_
  | with_reducible refine z_lstN ?_
  | ((with_reducible refine' z_nt ?zl1 ?_); (case zl1 => exact Nat.le_of_ble_eq_true rfl); intro p H' hp hs he)
  | ((with_reducible refine' z_gtup ?zl1 ?zl2 ?_); (case zl1 => walk_at "up"); (case zl2 => exact rfl))
  | with_reducible refine z_bk ?_
  | with_reducible refine z_ct ?_
  | with_reducible refine z_break ?_
  | with_reducible refine z_cont ?_
  | with_reducible refine z_retN ?_
  | with_reducible refine z_nn ?_
  | with_reducible refine z_mk ?_
  | with_reducible refine z_gn ?_
  | with_reducible refine z_gcons ?_
  | with_reducible refine z_gnil ?_
  | with_reducible refine z_mt ?_
  | with_reducible refine z_mko ?_
  | with_reducible refine z_for2 ?_
  | with_reducible refine z_ownI ?_
  | ((with_reducible refine' z_lenL ?zl1 ?_); (case zl1 => walk_at "up"))
  | ((with_reducible refine' z_ixT ?zl1 ?zl2 ?_); (case zl1 => walk_at "up"); (case zl2 => exact rfl))
  | ((with_reducible refine' z_mulL ?zl1 ?zl2 ?_); (case zl1 => omega); (case zl2 => omega))
  | ((with_reducible refine' z_mulR ?zl1 ?zl2 ?_); (case zl1 => omega); (case zl2 => omega))
  | ((with_reducible refine' z_divS ?zl1 ?zl2 ?_); (case zl1 => omega); (case zl2 => omega))
  | ((with_reducible refine' z_mulW ?zl1 ?zl2 ?zl3 ?zl4 ?_); (case zl1 => omega); (case zl2 => omega); (case zl3 => omega); (case zl4 => omega))
  | ((with_reducible refine' z_divW ?zl1 ?zl2 ?_); (case zl1 => omega); (case zl2 => omega)))
local macro_rules | `(tactic| walk_at "zz") => `(tactic| repeat (walk_at "z"))
local macro_rules | `(tactic| walk_at "z") => `(tactic| with_reducible refine z_lstN ?_)
local macro_rules | `(tactic| walk_at "z") => `(tactic| with_reducible refine z_p6 ?_)
local macro_rules | `(tactic| walk_at "z") => `(tactic| with_reducible refine z_p12 ?_)
local macro_rules | `(tactic| walk_at "z") => `(tactic| with_reducible refine z_p13 ?_)
local macro_rules | `(tactic| walk_at "z") => `(tactic| with_reducible refine z_calln ?_)
local macro_rules | `(tactic| walk_at "z") => `(tactic| with_reducible refine z_xfS ?_)
local macro_rules | `(tactic| walk_at "z") => `(tactic| with_reducible refine z_lcS ?_)
local macro_rules | `(tactic| walk_at "z") => `(tactic| with_reducible refine z_lcRS ?_)
local macro_rules | `(tactic| walk_at "z") => `(tactic| with_reducible refine z_lcZS ?_)
local macro_rules | `(tactic| walk_at "z") => `(tactic| with_reducible refine z_foS ?_)
local macro_rules | `(tactic| walk_at "z") => `(tactic| with_reducible refine z_for1 ?_)
local macro_rules | `(tactic| walk_at "z") => `(tactic| with_reducible refine z_tsl ?_)
local macro_rules | `(tactic| walk_at "z") => `(tactic| with_reducible refine z_np ?_)
local macro_rules | `(tactic| walk_at "z") => `(tactic| with_reducible refine z_pt ?_)
local macro_rules | `(tactic| walk_at "z") => `(tactic| with_reducible refine z_pti ?_)
local macro_rules | `(tactic| walk_at "z") => `(tactic| with_reducible refine z_catI ?_)
local macro_rules | `(tactic| walk_at "z") => `(tactic| with_reducible refine z_isNI ?_)
local macro_rules | `(tactic| walk_at "z") => `(tactic| with_reducible refine z_isNN ?_)
local macro_rules | `(tactic| walk_at "z") => `(tactic| with_reducible refine z_notNI ?_)
local macro_rules | `(tactic| walk_at "z") => `(tactic| with_reducible refine z_notNN ?_)
local macro_rules | `(tactic| walk_at "z") => `(tactic| with_reducible refine z_gsub ?_)
local macro_rules | `(tactic| walk_at "z") => `(tactic| with_reducible refine z_isNb ?_)
local macro_rules | `(tactic| walk_at "z") => `(tactic| with_reducible refine z_notNb ?_)
local macro_rules | `(tactic| walk_at "z") => `(tactic| ((with_reducible refine' z_nlR ?zl1 ?_); (case zl1 => exact Nat.le_of_ble_eq_true rfl); intro p H' hp hs he))
local macro_rules | `(tactic| walk_at "z") => `(tactic| ((with_reducible refine' z_repR ?zl1 ?zl2 ?_); (case zl1 => omega); (case zl2 => omega)))
local macro_rules | `(tactic| walk_at "z") => `(tactic| ((with_reducible refine' z_repL ?zl1 ?zl2 ?_); (case zl1 => omega); (case zl2 => omega)))
local macro_rules | `(tactic| walk_at "z") => `(tactic| ((with_reducible refine' z_lenLst ?zl1 ?_); (case zl1 => walk_at "up")))
local macro_rules | `(tactic| walk_at "z") => `(tactic| ((with_reducible refine' z_cat ?zl1 ?zl2 ?zl3 ?_); (case zl1 => walk_at "up"); (case zl2 => walk_at "up"); (case zl3 => (simp only [List.length_map, List.length_cons, List.length_nil, List.length_append, List.length_replicate]; omega)); intro p H' hp hs he))
local macro_rules | `(tactic| walk_at "z") => `(tactic| with_reducible refine z_sfl ?_)
local macro_rules | `(tactic| walk_at "z") => `(tactic| with_reducible refine z_lcES ?_)
local macro_rules | `(tactic| walk_at "z") => `(tactic| with_reducible refine z_lcMS ?_)
local macro_rules | `(tactic| walk_at "z") => `(tactic| with_reducible refine z_foES ?_)
local macro_rules | `(tactic| walk_at "z") => `(tactic| with_reducible refine z_fo3S ?_)
local macro_rules | `(tactic| walk_at "z") => `(tactic| with_reducible refine z_sta ?_)
local macro_rules | `(tactic| walk_at "z") => `(tactic| with_reducible refine z_sta1 ?_)
local macro_rules | `(tactic| walk_at "z") => `(tactic| with_reducible refine z_lcTS ?_)
local macro_rules | `(tactic| walk_at "z") => `(tactic| with_reducible refine z_foTS ?_)
local macro_rules | `(tactic| walk_at "z") => `(tactic| with_reducible refine z_revTS ?_)
local macro_rules | `(tactic| walk_at "z") => `(tactic| with_reducible refine z_max2 ?_)
local macro_rules | `(tactic| walk_at "z") => `(tactic| with_reducible refine z_fldS ?_)
local macro_rules | `(tactic| walk_at "z") => `(tactic| ((with_reducible refine' z_fdt ?zc1 ?zc2 ?zl2 ?_); (case zc1 => exact Lw.cl_Ratio (by assumption)); (case zc2 => exact Lw.na_Ratio_top (by assumption)); (case zl2 => walk_at "up")))
local macro_rules | `(tactic| walk_at "z") => `(tactic| ((with_reducible refine' z_fdb ?zc1 ?zc2 ?zl2 ?_); (case zc1 => exact Lw.cl_Ratio (by assumption)); (case zc2 => exact Lw.na_Ratio_bottom (by assumption)); (case zl2 => walk_at "up")))
local macro_rules | `(tactic| walk_at "z") => `(tactic| ((with_reducible refine' z_fldt ?zc1 ?zc2 ?zl1 ?zl2 ?_); (case zc1 => exact Lw.cl_Ratio (by assumption)); (case zc2 => exact Lw.na_Ratio_top (by assumption)); (case zl1 => exact rfl); (case zl2 => walk_at "up")))
local macro_rules | `(tactic| walk_at "z") => `(tactic| ((with_reducible refine' z_fldb ?zc1 ?zc2 ?zl1 ?zl2 ?_); (case zc1 => exact Lw.cl_Ratio (by assumption)); (case zc2 => exact Lw.na_Ratio_bottom (by assumption)); (case zl1 => exact rfl); (case zl2 => walk_at "up")))
local macro_rules | `(tactic| walk_at "z") => `(tactic| ((with_reducible refine' z_fldG ?zc1 ?zc2 ?zl0 ?zl1 ?zl2 ?_); (case zc1 => exact Lw.cl_Poly (by assumption)); (case zc2 => exact Lw.na_Poly_numbers (by assumption)); (case zl0 => exact rfl); (case zl1 => walk_at "up"); (case zl2 => exact lkA)))
local macro_rules | `(tactic| walk_at "z") => `(tactic| ((with_reducible refine' z_fldG ?zc1 ?zc2 ?zl0 ?zl1 ?zl2 ?_); (case zc1 => exact Lw.cl_Poly (by assumption)); (case zc2 => exact Lw.na_Poly_over (by assumption)); (case zl0 => exact rfl); (case zl1 => walk_at "up"); (case zl2 => exact lkO)))
local macro_rules | `(tactic| walk_at "z") => `(tactic| ((with_reducible refine' z_fldG ?zc1 ?zc2 ?zl0 ?zl1 ?zl2 ?_); (case zc1 => exact Lw.cl_Poly (by assumption)); (case zc2 => exact Lw.na_Poly_degree (by assumption)); (case zl0 => exact rfl); (case zl1 => walk_at "up"); (case zl2 => exact lkD)))
local macro_rules | `(tactic| walk_at "z") => `(tactic| ((with_reducible refine' z_glst ?zl1 ?zl2 ?_); (case zl1 => walk_at "up"); (case zl2 => exact rfl)))
local macro_rules | `(tactic| walk_at "z") => `(tactic| ((with_reducible refine' z_ixLst ?zl1 ?zl2 ?_); (case zl1 => walk_at "up"); (case zl2 => exact rfl)))
local macro_rules | `(tactic| walk_at "z") => `(tactic| ((with_reducible refine' u_mtV ?zl1 ?_); (case zl1 => walk_at "up")))
local macro_rules | `(tactic| walk_at "z") => `(tactic| ((with_reducible refine' u_mtQP ?zl1 ?_); (case zl1 => walk_at "up")))
local macro_rules | `(tactic| walk_at "z") => `(tactic| ((with_reducible refine' z_fldG ?zc1 ?zc2 ?zl0 ?zl1 ?zl2 ?_); (case zc1 => exact Lw.cl_SixClaim (by assumption)); (case zc2 => exact Lw.na_SixClaim_letters (by assumption)); (case zl0 => exact rfl); (case zl1 => walk_at "up"); (case zl2 => exact lkA)))
local macro_rules | `(tactic| walk_at "z") => `(tactic| ((with_reducible refine' z_fldG ?zc1 ?zc2 ?zl0 ?zl1 ?zl2 ?_); (case zc1 => exact Lw.cl_SixClaim (by assumption)); (case zc2 => exact Lw.na_SixClaim_numbers (by assumption)); (case zl0 => exact rfl); (case zl1 => walk_at "up"); (case zl2 => exact (lkB (by decide +kernel) lkA))))
local macro_rules | `(tactic| walk_at "z") => `(tactic| ((with_reducible refine' z_fldG ?zc1 ?zc2 ?zl0 ?zl1 ?zl2 ?_); (case zc1 => exact Lw.cl_SixPaper (by assumption)); (case zc2 => exact Lw.na_SixPaper_block (by assumption)); (case zl0 => exact rfl); (case zl1 => walk_at "up"); (case zl2 => exact lkA)))
local macro_rules | `(tactic| walk_at "z") => `(tactic| ((with_reducible refine' z_fldG ?zc1 ?zc2 ?zl0 ?zl1 ?zl2 ?_); (case zc1 => exact Lw.cl_SixPaper (by assumption)); (case zc2 => exact Lw.na_SixPaper_amount (by assumption)); (case zl0 => exact rfl); (case zl1 => walk_at "up"); (case zl2 => exact (lkB (by decide +kernel) lkA))))
local macro_rules | `(tactic| walk_at "z") => `(tactic| ((with_reducible refine' z_fldG ?zc1 ?zc2 ?zl0 ?zl1 ?zl2 ?_); (case zc1 => exact Lw.cl_SixPaper (by assumption)); (case zc2 => exact Lw.na_SixPaper_rest (by assumption)); (case zl0 => exact rfl); (case zl1 => walk_at "up"); (case zl2 => exact (lkB (by decide +kernel) (lkB (by decide +kernel) lkA)))))
local macro_rules | `(tactic| walk_at "z") => `(tactic| ((with_reducible refine' u_mtSC ?zl1 ?_); (case zl1 => walk_at "up")))
local macro_rules | `(tactic| walk_at "z") => `(tactic| with_reducible refine z_eqB ?_)
local macro_rules | `(tactic| walk_at "z") => `(tactic| with_reducible refine z_isB ?_)
local macro_rules | `(tactic| walk_at "z") => `(tactic| with_reducible refine u_whole1 ?_)
local macro_rules | `(tactic| walk_at "z") => `(tactic| with_reducible refine z_conS ?_)
local macro_rules | `(tactic| walk_at "z") => `(tactic| with_reducible refine z_prpS ?_)
local macro_rules | `(tactic| walk_at "z") => `(tactic| with_reducible refine z_neStr ?_)
local macro_rules | `(tactic| walk_at "z") => `(tactic| with_reducible refine u_flg ?_)
theorem same62e {H H1 H2 : Hp} (h : Same H1 H2) (e : Same H H1) : Same H H2 := e.trans h
local macro_rules | `(tactic| walk_at "sm") => `(tactic| first
  | assumption
  | exact fun _ _ h => h
  | (refine' same62e (by assumption) ?zsm; case zsm => walk_at "sm"))
local macro_rules | `(tactic| walk_at "up") => `(tactic| first
  | assumption
  | (with_reducible refine' IsR.mono (by assumption) ?zup; case zup => walk_at "up")
  | (with_reducible refine' IsV.mono (by assumption) ?zup; case zup => walk_at "up")
  | (with_reducible refine' IsQ.mono (by assumption) ?zup; case zup => walk_at "up")
  | (with_reducible refine' QP.mono (by assumption) ?zup; case zup => walk_at "up")
  | (with_reducible refine' R3.mono (by assumption) ?zup; case zup => walk_at "up")
  | (with_reducible refine' Same.at (by assumption) ?zup; case zup => walk_at "up")
  | (with_reducible refine' Fr.mono (by assumption) ?zup; case zup => walk_at "up")
  | (with_reducible refine' FS.mono (by assumption) ?zup; case zup => walk_at "up")
  | (with_reducible refine' IsSC.mono (by assumption) ?zup; case zup => walk_at "up")
  | (with_reducible refine' L3.mono (by assumption) ?zup; case zup => walk_at "up")
  | (with_reducible refine' L34.mono (by assumption) ?zup; case zup => walk_at "up")
  | (with_reducible refine' L4.mono (by assumption) ?zup; case zup => walk_at "up")
  | (with_reducible refine' PU.mono (by assumption) ?zup; case zup => walk_at "up")
  | (with_reducible refine' IsPool.mono (by assumption) ?zup; case zup => walk_at "up")
  | (with_reducible refine' IsSix.mono (by assumption) ?zup; case zup => walk_at "up")
  | (with_reducible refine' Says.mono (by assumption) ?zup; case zup => walk_at "up")
  | (refine' And.left ?zup; case zup => assumption)
  | fail)
section
variable {P : Program} {w : World} {K : Frag} {mg : Str → Option Value} {base : Heap}
theorem ok_law_ask (L : Lw K mg) {fd : FuncData} (F : FunD K "_law_ask" "_law_ask" (defArgs s_law_ask) (defBody s_law_ask) (defScope s_law_ask) (df_law_ask.dvs K) (df_law_ask.kws K) (He.fAd K ("_law_ask", none)) fd) : FnOk P w K mg base (L2N.CX P w) 12 (He.fAd K ("_law_ask", none)) fd (["n", "q", "k", "part", "rest", "low", "due"] : List Str) (sp7 (fs_lask K)) := by
  refine FunD.ok F sc_law_ask len7 (fun cdv A outer s H vs Q E hr h => ?_)
  obtain ⟨x1, x2, x3, x4, x5, x6, x7, rfl, h⟩ := h
  refine ⟨_, (pss_cons (ps_set (i := 7) sc_law_ask.nd rfl (by first | exact Or.inl rfl | exact Or.inr rfl) (pe_c (c_law_claim (K := K) L) hr (by decide) (L2N.takes_of rfl rfl rfl rfl) (pa_cons (pv 0) (pa_cons (pv 1) pa_nil))))
    (pss_cons (ps_set (i := 8) sc_law_ask.nd rfl (by first | exact Or.inl rfl | exact Or.inr rfl) (pe_c (c_law_made (K := K) L) hr (by decide) (L2N.takes_of rfl rfl rfl rfl) (pa_cons (pv 2) (pa_cons (pv 3) (pa_cons (pv 4) (pa_cons (pv 5) pa_nil))))))
    (pss_cons (ps_if (PW.pt (pw_or (pt_not (pt_val (pe_callB (callK rIsi (K := K) rfl call_isi) (by rfl) L.f_isinstance (by decide +kernel) (pa_cons (pv 8) (pa_cons (pe_cls L.g_Paper) pa_nil))))) (pw_or1 (pt_not (pt_val (pe_callB (callK rIsi (K := K) rfl call_isi) (by rfl) L.f_isinstance (by decide +kernel) (pa_cons (pv 8) (pa_cons (pe_cls L.g_Answer) pa_nil)))))))) (pss_one (ps_ret pe_bl)) pss_nil)
    (pss_cons (ps_if (PW.pt (pw_or (pt_cmpR op_ne (pe_conK (K := K) rfl (pv 8) rfl) pe_str (nomark _)) (pw_or1 (pt_val (pe_callB (callK rIsi (K := K) rfl call_isi) (by rfl) L.f_isinstance (by decide +kernel) (pa_cons (pv 8) (pa_cons (pe_cls L.g_Spot) pa_nil))))))) (pss_one (ps_ret pe_bl)) pss_nil)
    (pss_cons (ps_if (pt_not (pt_val (pe_c (c_law_flag (K := K) L) hr (by decide) (L2N.takes_of rfl rfl rfl rfl) (pa_cons (pe_prp (c_SixPaper_is_squares (K := K) L) hr (by decide) passF (pv 8) rfl) (pa_cons (pe_cmpR o_lt (pv 2) pe_int (nomark _)) pa_nil))))) (pss_one (ps_ret pe_bl)) pss_nil)
    (pss_cons (ps_if (PW.pt (pw_or (pt_not (pt_val (pe_c (c_law_whole (K := K) L) hr (by decide) (L2N.takes_of rfl rfl rfl rfl) (pa_cons (pe_fld (pv 8) rfl) pa_nil)))) (pw_or1 (pt_cmpR op_ne (pe_fld (pv 8) rfl) (pv 2) (nomark _))))) (pss_one (ps_ret pe_bl)) pss_nil)
    (pss_cons (ps_if (pt_not (pt_val (pe_c (c_law_is (K := K) L) hr (by decide) (L2N.takes_of rfl rfl rfl rfl) (pa_cons (pe_fld (pv 8) rfl) (pa_cons (pe_ix (ix_seqK (K := K) rfl) (pv 3) pe_int (fun _ _ => rfl)) (pa_cons (pe_ix (ix_seqK (K := K) rfl) (pv 3) pe_int (fun _ _ => rfl)) pa_nil)))))) (pss_one (ps_ret pe_bl)) pss_nil)
    (pss_cons (ps_if (pt_not (pt_val (pe_c (c_law_flag (K := K) L) hr (by decide) (L2N.takes_of rfl rfl rfl rfl) (pa_cons (pe_cmpR (op_ownEqB (c_PolyD_eqD (K := K) L) hr (by decide) passF) (pe_fld (pv 8) rfl) (pe_mk (c_PolyD_initD (K := K) L) hr (by decide) (L2N.takes_of rfl rfl rfl rfl) (pa_cons (pe_callTy (callK rList1 (K := K) rfl o_list1) (by rfl) L.f_list (by decide +kernel) (pa_cons (pv 4) pa_nil)) (pa_cons (pv 5) pa_nil))) (nomark _)) (pa_cons pe_bl pa_nil))))) (pss_one (ps_ret pe_bl)) pss_nil)
    (pss_one (ps_ret (pe_c (c_law_says (K := K) L) hr (by decide) (L2N.takes_of rfl rfl rfl rfl) (pa_cons (pv 7) (pa_cons (pv 8) (pa_cons (pv 6) pa_nil)))))))))))))), ?_⟩
  rw [show L2.start (["n", "q", "k", "part", "rest", "low", "due", "claim", "paper"] : List Str) [x1, x2, x3, x4, x5, x6, x7] = [some x1, some x2, some x3, some x4, some x5, some x6, some x7, none, none] from rfl]
  obtain ⟨n, k, A, B, C, w, u, b, r0, r1, r2, low, q0, p, r, due, rfl, rfl, rfl, rfl, rfl, rfl, rfl, hQ, hP, hR, k0, k1, n1, n2, l0, bl, hdue, fin⟩ := h
  obtain ⟨hq, ba, bb, bc, w0, bw⟩ := id hQ
  obtain ⟨hp, bu, b0, bbb⟩ := id hP
  obtain ⟨hr3, c0, c1, c2⟩ := id hR
  try dsimp only [List.set]
  walk_at "zz"
  refine ⟨_, _, rfl, n, A, B, C, w, q0, rfl, rfl, hQ, n1, n2, fun cl H1 s1 hcl => ?_⟩
  try dsimp only [List.set]
  walk_at "zz"
  refine ⟨_, _, _, _, rfl, k, u, b, low, p, r, [r0, r1, r2], rfl, rfl, rfl, rfl, hP.mono s1, k0, k1, l0, bl, s1 _ _ hr3, Nat.le_of_ble_eq_true rfl, fun s wv v ls o H2 s2 hsix hFr hI hLw => ?_⟩
  obtain ⟨dx, hs⟩ := id hsix
  have s12 := s1.trans s2
  have hp2 := s12 _ _ hp
  have hr2 := s12 _ _ hr3
  try dsimp only [List.set]
  walk_at "zz"
  refine z_isN L.in_SixPaper L.kt_SixPaper_Paper hs ?_
  try dsimp only [List.set]
  walk_at "zz"
  refine z_isN L.in_SixPaper L.kt_SixPaper_Answer hs ?_
  try dsimp only [List.set]
  walk_at "zz"
  refine z_con1 hs L.cl_SixPaper rfl L.co_SixPaper_KIND ?_
  try dsimp only [List.set]
  walk_at "zz"
  refine z_isN L.in_SixPaper L.kt_SixPaper_Spot hs ?_
  try dsimp only [List.set]
  walk_at "zz"
  refine z_prp1 hs ⟨_, rfl, s, dx, k, _, _, rfl, hs, ?_⟩
  try dsimp only [List.set]
  walk_at "zz"
  have hW := fr_isV (B := 40) hFr b0 (bu.up (by decide)) bbb (by decide)
  have hV := hW.2 (by decide)
  have hQP := QP.low hI hLw l0 bl c0 c1 c2
  refine z_dT rfl ?_
  try dsimp only [List.set]
  walk_at "zz"
  refine u_is hFr b0 bu bbb bu bbb (by decide) (by decide) ?_
  rw [decide_eq_true (show u * b = u * b from rfl)]
  try dsimp only [List.set]
  walk_at "zz"
  refine z_listL (SqL.of hr2) (fun lc H3 hlc s3 elc => ?_)
  try dsimp only [List.set]
  walk_at "zz"
  refine u_mkP (ns := [r0, r1, r2]) elc (Nat.le_of_ble_eq_true rfl) (by omega) (bl.up (by decide)) (fun v2 H4 ls2 o2 s4 hI2 hLw2 => ?_)
  have s24 := s3.trans s4
  have hQP2 := QP.low hI2 hLw2 l0 bl c0 c1 c2
  try dsimp only [List.set]
  walk_at "zz"
  refine u_eqB (hQP.mono s24) hQP2 (fun t et => ?_)
  obtain rfl : t = true := et.mpr ⟨rfl, rfl, rfl⟩
  try dsimp only [List.set]
  walk_at "zz"
  refine ⟨_, _, _, rfl, cl, s, due, rfl, rfl, rfl, .inl (.inl ⟨k, n, wv, v, _, _, _, _, _, _, _, 390, hsix.mono s24, hV.mono s24, hQP.mono s24, (hcl.mono s2).mono s24, k0, k1, n1, n2, by decide, by decide, hdue⟩), fun H5 s5 => ?_⟩
  exact fin _ ((s12.trans s24).trans s5)
theorem c_law_ask (L : Lw K mg) : Cal P w K mg base 12 "_law_ask" (sp7 (fs_lask K)) [] := by
  obtain ⟨fd, F⟩ := L.d_law_ask
  exact ⟨⟨_, fd, ["n", "q", "k", "part", "rest", "low", "due"], [], ok_law_ask L F, L.g_law_ask, F.kp, F.bindsN (fun _ _ _ _ _ _ us hl => match us, hl with | [_, _, _, _, _, _, _], _ => rfl), .nil⟩⟩
theorem ok_law_built (L : Lw K mg) {fd : FuncData} (F : FunD K "_law_built" "_law_built" (defArgs s_law_built) (defBody s_law_built) (defScope s_law_built) (df_law_built.dvs K) (df_law_built.kws K) (He.fAd K ("_law_built", none)) fd) : FnOk P w K mg base (L2N.CX P w) 13 (He.fAd K ("_law_built", none)) fd (["n", "k", "part", "rest", "low", "due", "truth"] : List Str) (sp7 (fs_built K)) := by
  refine FunD.ok F sc_law_built len7 (fun cdv A outer s H vs Q E hr h => ?_)
  obtain ⟨x1, x2, x3, x4, x5, x6, x7, rfl, h⟩ := h
  refine ⟨_, (pss_cons (ps_set (i := 7) sc_law_built.nd rfl (by first | exact Or.inl rfl | exact Or.inr rfl) (pe_c (c_law_sum (K := K) L) hr (by decide) (L2N.takes_of rfl rfl rfl rfl) (pa_cons (pv 0) (pa_cons (pv 1) (pa_cons (pv 2) (pa_cons (pv 3) (pa_cons (pv 4) pa_nil)))))))
    (pss_cons (ps_if (PW.pt (pw_and (pt_val (pv 6)) (pw_and1 (pt_not (pt_val (pe_c (c_law_flag (K := K) L) hr (by decide) (L2N.takes_of rfl rfl rfl rfl) (pa_cons (pe_mt0 (c_SixClaim_holds (K := K) L) hr (by decide) (L2N.takes_of rfl rfl rfl rfl) (pe_c (c_law_claim (K := K) L) hr (by decide) (L2N.takes_of rfl rfl rfl rfl) (pa_cons (pv 0) (pa_cons (pv 7) pa_nil)))) (pa_cons (pe_c (c_law_holds (K := K) L) hr (by decide) (L2N.takes_of rfl rfl rfl rfl) (pa_cons (pv 0) (pa_cons (pv 7) pa_nil))) pa_nil)))))))) (pss_one (ps_ret pe_bl)) pss_nil)
    (pss_one (ps_ret (pe_c (c_law_ask (K := K) L) hr (by decide) (L2N.takes_of rfl rfl rfl rfl) (pa_cons (pv 0) (pa_cons (pv 7) (pa_cons (pv 1) (pa_cons (pv 2) (pa_cons (pv 3) (pa_cons (pv 4) (pa_cons (pv 5) pa_nil)))))))))))), ?_⟩
  rw [show L2.start (["n", "k", "part", "rest", "low", "due", "truth", "q"] : List Str) [x1, x2, x3, x4, x5, x6, x7] = [some x1, some x2, some x3, some x4, some x5, some x6, some x7, none] from rfl]
  obtain ⟨n, k, u, b, r0, r1, r2, low, p, r, due, truth, rfl, rfl, rfl, rfl, rfl, rfl, rfl, hP, hR, k0, k1, n1, n2, l0, bl, hdue, fin⟩ := h
  obtain ⟨hp, bu, b0, bbb⟩ := id hP
  try dsimp only [List.set]
  walk_at "zz"
  refine ⟨_, _, _, _, _, rfl, n, k, u, b, r0, r1, r2, low, p, r, 290, rfl, rfl, rfl, rfl, rfl, hP, hR, by decide, by decide, k0, k1, n1, n2, l0, bl, fun q H1 s1 hQ => ?_⟩
  have hQ9 : L4 H1 q (r0 * b + u * jA k n * low) (r1 * b + u * jB k n * low) (r2 * b + u * jC k * low) (low * b) 390 := ⟨hQ.1, hQ.2.1.up (by decide), hQ.2.2.1.up (by decide), hQ.2.2.2.1.up (by decide), hQ.2.2.2.2⟩
  have fine : ∀ H2 E, Same H1 H2 → sp7 (fs_lask K) [.int n, .ref q, .int k, .ref p, .ref r, .int low, .bl due] H2 Q E := fun H2 E s2 => ⟨_, _, _, _, _, _, _, rfl, n, k, _, _, _, _, u, b, r0, r1, r2, low, q, p, r, due, rfl, rfl, rfl, rfl, rfl, rfl, rfl, hQ9.mono s2, hP.mono (s1.trans s2), hR.mono (s1.trans s2), k0, k1, n1, n2, l0, bl, hdue.trans (shw_sum b0 l0).symm, fun H3 s3 => fin _ ((s1.trans s2).trans s3)⟩
  try dsimp only [List.set]
  walk_at "zz"
  cases truth with
  | false =>
    rw [if_neg (by decide)]
    try dsimp only [List.set]
    walk_at "zz"
    exact fine _ _ (fun _ _ h => h)
  | true =>
    rw [if_pos rfl]
    try dsimp only [List.set]
    walk_at "zz"
    refine ⟨_, _, rfl, n, _, _, _, _, q, rfl, rfl, hQ9, n1, n2, fun cl H2 s2 hcl => ?_⟩
    try dsimp only [List.set]
    walk_at "zz"
    refine ⟨_, rfl, cl, n, _, _, _, 390, rfl, hcl, by decide, by decide, by omega, n2, fun t1 H3 s3 e1 => ?_⟩
    have s13 := s2.trans s3
    have hQ3 := hQ9.mono s13
    try dsimp only [List.set]
    walk_at "zz"
    refine ⟨_, _, rfl, n, q, _, _, _, 390, rfl, rfl, ⟨.inr ⟨_, hQ3.1⟩, hQ3.2.1, hQ3.2.2.1, hQ3.2.2.2.1⟩, by decide, by omega, n2, fun t2 H4 s4 e2 => ?_⟩
    obtain rfl : t1 = t2 := b_iff (e1.trans ((ch (Int.mul_pos l0 b0)).trans e2.symm))
    try dsimp only [List.set]
    walk_at "zz"
    exact fine _ _ (s13.trans s4)
theorem c_law_built (L : Lw K mg) : Cal P w K mg base 13 "_law_built" (sp7 (fs_built K)) [] := by
  obtain ⟨fd, F⟩ := L.d_law_built
  exact ⟨⟨_, fd, ["n", "k", "part", "rest", "low", "due", "truth"], [], ok_law_built L F, L.g_law_built, F.kp, F.bindsN (fun _ _ _ _ _ _ us hl => match us, hl with | [_, _, _, _, _, _, _], _ => rfl), .nil⟩⟩
end
end T
set_option maxHeartbeats 4000000
namespace T
open PySem PySem.Spec PyProof.Rows L2 Z
open S31 (cf)
open S30
theorem u_bld {K : Frag} {H : Hp} {Q : VK} {E : XK} {n k u b r0 r1 r2 low : Int} {p r : Addr} {due truth : Bool} (hP : PU H p u b) (hR : L3 H r r0 r1 r2 290) (k0 : 0 ≤ k) (k1 : k ≤ 200) (n1 : 2 ≤ n) (n2 : n ≤ 200) (l0 : 0 < low) (bl : Bits 5 low)
    (hdue : due = true ↔ k < n ∧ 0 ≤ u ∧ ∀ t, 0 ≤ S66.rv ((r0 : Rat) / low) ((r1 : Rat) / low) ((r2 : Rat) / low) t) (fin : ∀ H', Same H H' → Q (.bl true) H') : sp7 (fs_built K) [.int n, .int k, .ref p, .ref r, .int low, .bl due, .bl truth] H Q E :=
  ⟨_, _, _, _, _, _, _, rfl, n, k, u, b, r0, r1, r2, low, p, r, due, truth, rfl, rfl, rfl, rfl, rfl, rfl, rfl, hP, hR, k0, k1, n1, n2, l0, bl, hdue, fin⟩
theorem due_f {P : Prop} (h : ¬ P) : (false = true ↔ P) := ⟨fun z => absurd z (by decide), fun q => absurd q h⟩
theorem due_t {P : Prop} (h : P) : (true = true ↔ P) := ⟨fun _ => h, fun _ => rfl⟩
theorem rv_low {a b c low : Int} (l0 : 0 < low) (t : Rat) : S66.rv ((a : Rat) / low) ((b : Rat) / low) ((c : Rat) / low) t * low = (a : Rat) + t * ((b : Rat) + t * c) := by
  have h := ne_cast (show low ≠ 0 by omega)
  unfold S66.rv
  grind
theorem rv_nn {a b c low : Int} (l0 : 0 < low) {t : Rat} (h : 0 ≤ (a : Rat) + t * ((b : Rat) + t * c)) : 0 ≤ S66.rv ((a : Rat) / low) ((b : Rat) / low) ((c : Rat) / low) t := by
  have p : (0 : Rat) < low := S66.c_lt.mpr l0
  rw [← rv_low l0 t] at h
  refine Rat.not_lt.mp fun g => ?_
  have := Rat.mul_pos (show 0 < -S66.rv ((a : Rat) / low) ((b : Rat) / low) ((c : Rat) / low) t by grind) p
  grind
theorem rv_neg {a b c low : Int} (l0 : 0 < low) {t : Rat} (h : (a : Rat) + t * ((b : Rat) + t * c) < 0) : ¬ ∀ t, 0 ≤ S66.rv ((a : Rat) / low) ((b : Rat) / low) ((c : Rat) / low) t := fun q => by
  have p : (0 : Rat) < low := S66.c_lt.mpr l0
  have := Rat.mul_nonneg (q t) (Rat.le_of_lt p)
  rw [rv_low l0 t] at this
  grind
theorem sq_nn (x : Rat) : 0 ≤ x * x := by
  rcases (Rat.le_total (a := 0) (b := x)) with h | h
  · exact Rat.mul_nonneg h h
  · have := Rat.mul_nonneg (show 0 ≤ -x by grind) (show 0 ≤ -x by grind)
    grind
theorem touch_nn {w o low : Int} (l0 : 0 < low) (w0 : 0 < w) (t : Rat) : 0 ≤ S66.rv (((w * o * o : Int) : Rat) / low) (((-4 * w * o : Int) : Rat) / low) (((4 * w : Int) : Rat) / low) t := by
  refine rv_nn l0 ?_
  simp only [Rat.intCast_mul]
  have e4 : ((4 : Int) : Rat) = 4 := rfl
  have e5 : ((-4 : Int) : Rat) = -4 := rfl
  rw [e4, e5]
  have p : (0 : Rat) ≤ w := S66.c_le.mpr (show 0 ≤ w by omega)
  have := Rat.mul_nonneg p (sq_nn ((o : Rat) - 2 * t))
  grind
theorem under_neg {w o low : Int} (l0 : 0 < low) : ¬ ∀ t, 0 ≤ S66.rv (((w * o * o - 1 : Int) : Rat) / low) (((-4 * w * o : Int) : Rat) / low) (((4 * w : Int) : Rat) / low) t := by
  refine rv_neg l0 (t := (o : Rat) / 2) ?_
  rw [Rat.intCast_sub]
  simp only [Rat.intCast_mul]
  have e4 : ((4 : Int) : Rat) = 4 := rfl
  have e5 : ((-4 : Int) : Rat) = -4 := rfl
  have e1 : ((1 : Int) : Rat) = 1 := rfl
  rw [e4, e5, e1]
  grind
theorem slope_neg {w low : Int} (l0 : 0 < low) (w0 : 0 < w) : ¬ ∀ t, 0 ≤ S66.rv (((0 : Int) : Rat) / low) ((w : Rat) / low) (((0 : Int) : Rat) / low) t := by
  refine rv_neg l0 (t := -1) ?_
  have e0 : ((0 : Int) : Rat) = 0 := rfl
  have : (0 : Rat) < w := S66.c_lt.mpr w0
  rw [e0]
  grind
theorem hill_neg {n low : Int} (l0 : 0 < low) (n0 : 0 < n) : ¬ ∀ t, 0 ≤ S66.rv (((0 : Int) : Rat) / low) (((n + 1 : Int) : Rat) / low) (((-1 : Int) : Rat) / low) t := by
  refine rv_neg l0 (t := -1) ?_
  rw [Rat.intCast_add]
  have e0 : ((0 : Int) : Rat) = 0 := rfl
  have e1 : ((1 : Int) : Rat) = 1 := rfl
  have e2 : ((-1 : Int) : Rat) = -1 := rfl
  have : (0 : Rat) < n := S66.c_lt.mpr n0
  rw [e0, e1, e2]
  grind
theorem one_neg {low : Int} (l0 : 0 < low) : ¬ ∀ t, 0 ≤ S66.rv (((-1 : Int) : Rat) / low) (((0 : Int) : Rat) / low) (((0 : Int) : Rat) / low) t := by
  refine rv_neg l0 (t := 0) ?_
  have e0 : ((0 : Int) : Rat) = 0 := rfl
  have e2 : ((-1 : Int) : Rat) = -1 := rfl
  rw [e0, e2]
  grind
theorem bi {x : Int} (h1 : -1048576 < x) (h2 : x < 1048576) : Bits 20 x := Bits.small (n := 20) (by show -(1048576 : Int) < x; exact h1) (by show x < (1048576 : Int); exact h2)
def fs_bbl (K : Frag) : F5 := fun x1 x2 x3 x4 x5 H Q _ => ∃ (n k u b r0 r1 r2 low : Int) (p r : Addr), x1 = .int n ∧ x2 = .int k ∧ x3 = .ref p ∧ x4 = .ref r ∧ x5 = .int low ∧
  PU H p u b ∧ 0 ≤ u ∧ u ≤ 1000 ∧ L3 H r r0 r1 r2 290 ∧ (∀ t, 0 ≤ S66.rv ((r0 : Rat) / low) ((r1 : Rat) / low) ((r2 : Rat) / low) t) ∧ 0 ≤ k ∧ k < n ∧ 2 ≤ n ∧ n ≤ 200 ∧ 0 < low ∧ Bits 5 low ∧ ∀ H', Same H H' → Q (.bl true) H'
def fs_bpt (K : Frag) : F6 := fun x1 x2 x3 x4 x5 x6 H Q _ => ∃ (n k u b r0 r1 r2 low m : Int) (p r : Addr), x1 = .int n ∧ x2 = .int k ∧ x3 = .ref p ∧ x4 = .ref r ∧ x5 = .int low ∧ x6 = .int m ∧
  PU H p u b ∧ 0 ≤ u ∧ u ≤ 1000 ∧ L3 H r r0 r1 r2 240 ∧ 0 ≤ r2 ∧ 0 ≤ k ∧ k < n ∧ 2 ≤ n ∧ n ≤ 200 ∧ 0 < low ∧ Bits 5 low ∧ 1 ≤ m ∧ m ≤ 200 ∧ ∀ H', Same H H' → Q (.bl true) H'
local macro_rules | `(tactic| walk_at "up") => `(tactic| first
  | assumption
  | (refine' IsR.mono (by assumption) ?zup; case zup => walk_at "up")
  | (refine' IsE.mono (by assumption) ?zup; case zup => walk_at "up")
  | (refine' Same.at (by assumption) ?zup; case zup => walk_at "up")
  | (refine' SqL.of ?zup; case zup => walk_at "up")
  | (refine' L2.Same.seq (by assumption) ?zup; case zup => walk_at "up"))
local macro_rules | `(tactic| walk_at "z") => `(tactic| first
  | ((with_reducible refine' z_var ?zvh ?_); (case zvh => exact rfl))
  | with_reducible refine z_c ?_
  | with_reducible refine z_cons ?_
  | with_reducible refine z_nil ?_
  | with_reducible refine z_op ?_
  | with_reducible refine z_nx ?_
  | with_reducible refine z_seq ?_
  | with_reducible refine z_asg ?_
  | with_reducible refine z_asgG ?_
  | with_reducible refine z_call ?_
  | with_reducible refine z_sq0 ?_
  | with_reducible refine z_sq1 ?_
  | with_reducible refine z_ifS ?_
  | with_reducible refine z_test ?_
  | with_reducible refine z_tb ?_
  | with_reducible refine z_bl ?_
  | with_reducible refine z_blI ?_
  | with_reducible refine z_ret ?_
  | with_reducible refine z_rt ?_
  | with_reducible refine z_T ?_
  | with_reducible refine z_F ?_
  | with_reducible refine z_add ?_
  | with_reducible refine z_sub ?_
  | with_reducible refine z_neg ?_
  | with_reducible refine z_un ?_
  | with_reducible refine z_eqI ?_
  | with_reducible refine z_neI ?_
  | with_reducible refine z_lt ?_
  | with_reducible refine z_le ?_
  | with_reducible refine z_gt ?_
  | with_reducible refine z_ge ?_
  | with_reducible refine z_not ?_
  | with_reducible refine z_and ?_
  | with_reducible refine z_or ?_
  | with_reducible refine z_andV ?_
  | with_reducible refine z_orV ?_
  | with_reducible refine z_notV ?_
  | with_reducible refine z_if ?_
  | with_reducible refine z_cb ?_
  | with_reducible refine z_int1 ?_
  | with_reducible refine z_intb ?_
  | with_reducible refine z_abs ?_
  | with_reducible refine z_gcd ?_
  | with_reducible refine z_isi_ii ?_
  | with_reducible refine z_isi_ib ?_
  | with_reducible refine z_next ?_
  | with_reducible refine z_drop ?_
  | with_reducible refine z_par ?_
  | with_reducible refine z_par2 ?_
  | with_reducible refine z_tupN ?_
  | with_reducible refine z_lstN ?_
  | ((with_reducible refine' z_nt ?zl1 ?_); (case zl1 => exact Nat.le_of_ble_eq_true rfl); intro p H' hp hs he)
  | ((with_reducible refine' z_gtup ?zl1 ?zl2 ?_); (case zl1 => walk_at "up"); (case zl2 => exact rfl))
  | with_reducible refine z_bk ?_
  | with_reducible refine z_ct ?_
  | with_reducible refine z_break ?_
  | with_reducible refine z_cont ?_
  | with_reducible refine z_retN ?_
  | with_reducible refine z_nn ?_
  | with_reducible refine z_mk ?_
  | with_reducible refine z_gn ?_
  | with_reducible refine z_gcons ?_
  | with_reducible refine z_gnil ?_
  | with_reducible refine z_mt ?_
  | with_reducible refine z_mko ?_
  | with_reducible refine z_for2 ?_
  | with_reducible refine z_ownI ?_
  | ((with_reducible refine' z_lenL ?zl1 ?_); (case zl1 => walk_at "up"))
  | ((with_reducible refine' z_ixT ?zl1 ?zl2 ?_); (case zl1 => walk_at "up"); (case zl2 => exact rfl))
  | ((with_reducible refine' z_mulL ?zl1 ?zl2 ?_); (case zl1 => omega); (case zl2 => omega))
  | ((with_reducible refine' z_mulR ?zl1 ?zl2 ?_); (case zl1 => omega); (case zl2 => omega))
  | ((with_reducible refine' z_divS ?zl1 ?zl2 ?_); (case zl1 => omega); (case zl2 => omega))
  | ((with_reducible refine' z_mulW ?zl1 ?zl2 ?zl3 ?zl4 ?_); (case zl1 => omega); (case zl2 => omega); (case zl3 => omega); (case zl4 => omega))
  | ((with_reducible refine' z_divW ?zl1 ?zl2 ?_); (case zl1 => omega); (case zl2 => omega)))
local macro_rules | `(tactic| walk_at "zz") => `(tactic| repeat (walk_at "z"))
local macro_rules | `(tactic| walk_at "z") => `(tactic| with_reducible refine z_lstN ?_)
local macro_rules | `(tactic| walk_at "z") => `(tactic| with_reducible refine z_p6 ?_)
local macro_rules | `(tactic| walk_at "z") => `(tactic| with_reducible refine z_p12 ?_)
local macro_rules | `(tactic| walk_at "z") => `(tactic| with_reducible refine z_p13 ?_)
local macro_rules | `(tactic| walk_at "z") => `(tactic| with_reducible refine z_calln ?_)
local macro_rules | `(tactic| walk_at "z") => `(tactic| with_reducible refine z_xfS ?_)
local macro_rules | `(tactic| walk_at "z") => `(tactic| with_reducible refine z_lcS ?_)
local macro_rules | `(tactic| walk_at "z") => `(tactic| with_reducible refine z_lcRS ?_)
local macro_rules | `(tactic| walk_at "z") => `(tactic| with_reducible refine z_lcZS ?_)
local macro_rules | `(tactic| walk_at "z") => `(tactic| with_reducible refine z_foS ?_)
local macro_rules | `(tactic| walk_at "z") => `(tactic| with_reducible refine z_for1 ?_)
local macro_rules | `(tactic| walk_at "z") => `(tactic| with_reducible refine z_tsl ?_)
local macro_rules | `(tactic| walk_at "z") => `(tactic| with_reducible refine z_np ?_)
local macro_rules | `(tactic| walk_at "z") => `(tactic| with_reducible refine z_pt ?_)
local macro_rules | `(tactic| walk_at "z") => `(tactic| with_reducible refine z_pti ?_)
local macro_rules | `(tactic| walk_at "z") => `(tactic| with_reducible refine z_catI ?_)
local macro_rules | `(tactic| walk_at "z") => `(tactic| with_reducible refine z_isNI ?_)
local macro_rules | `(tactic| walk_at "z") => `(tactic| with_reducible refine z_isNN ?_)
local macro_rules | `(tactic| walk_at "z") => `(tactic| with_reducible refine z_notNI ?_)
local macro_rules | `(tactic| walk_at "z") => `(tactic| with_reducible refine z_notNN ?_)
local macro_rules | `(tactic| walk_at "z") => `(tactic| with_reducible refine z_gsub ?_)
local macro_rules | `(tactic| walk_at "z") => `(tactic| with_reducible refine z_isNb ?_)
local macro_rules | `(tactic| walk_at "z") => `(tactic| with_reducible refine z_notNb ?_)
local macro_rules | `(tactic| walk_at "z") => `(tactic| ((with_reducible refine' z_nlR ?zl1 ?_); (case zl1 => exact Nat.le_of_ble_eq_true rfl); intro p H' hp hs he))
local macro_rules | `(tactic| walk_at "z") => `(tactic| ((with_reducible refine' z_repR ?zl1 ?zl2 ?_); (case zl1 => omega); (case zl2 => omega)))
local macro_rules | `(tactic| walk_at "z") => `(tactic| ((with_reducible refine' z_repL ?zl1 ?zl2 ?_); (case zl1 => omega); (case zl2 => omega)))
local macro_rules | `(tactic| walk_at "z") => `(tactic| ((with_reducible refine' z_lenLst ?zl1 ?_); (case zl1 => walk_at "up")))
local macro_rules | `(tactic| walk_at "z") => `(tactic| ((with_reducible refine' z_cat ?zl1 ?zl2 ?zl3 ?_); (case zl1 => walk_at "up"); (case zl2 => walk_at "up"); (case zl3 => (simp only [List.length_map, List.length_cons, List.length_nil, List.length_append, List.length_replicate]; omega)); intro p H' hp hs he))
local macro_rules | `(tactic| walk_at "z") => `(tactic| with_reducible refine z_sfl ?_)
local macro_rules | `(tactic| walk_at "z") => `(tactic| with_reducible refine z_lcES ?_)
local macro_rules | `(tactic| walk_at "z") => `(tactic| with_reducible refine z_lcMS ?_)
local macro_rules | `(tactic| walk_at "z") => `(tactic| with_reducible refine z_foES ?_)
local macro_rules | `(tactic| walk_at "z") => `(tactic| with_reducible refine z_fo3S ?_)
local macro_rules | `(tactic| walk_at "z") => `(tactic| with_reducible refine z_sta ?_)
local macro_rules | `(tactic| walk_at "z") => `(tactic| with_reducible refine z_sta1 ?_)
local macro_rules | `(tactic| walk_at "z") => `(tactic| with_reducible refine z_lcTS ?_)
local macro_rules | `(tactic| walk_at "z") => `(tactic| with_reducible refine z_foTS ?_)
local macro_rules | `(tactic| walk_at "z") => `(tactic| with_reducible refine z_revTS ?_)
local macro_rules | `(tactic| walk_at "z") => `(tactic| with_reducible refine z_max2 ?_)
local macro_rules | `(tactic| walk_at "z") => `(tactic| with_reducible refine z_fldS ?_)
local macro_rules | `(tactic| walk_at "z") => `(tactic| ((with_reducible refine' z_fdt ?zc1 ?zc2 ?zl2 ?_); (case zc1 => exact Lw.cl_Ratio (by assumption)); (case zc2 => exact Lw.na_Ratio_top (by assumption)); (case zl2 => walk_at "up")))
local macro_rules | `(tactic| walk_at "z") => `(tactic| ((with_reducible refine' z_fdb ?zc1 ?zc2 ?zl2 ?_); (case zc1 => exact Lw.cl_Ratio (by assumption)); (case zc2 => exact Lw.na_Ratio_bottom (by assumption)); (case zl2 => walk_at "up")))
local macro_rules | `(tactic| walk_at "z") => `(tactic| ((with_reducible refine' z_fldt ?zc1 ?zc2 ?zl1 ?zl2 ?_); (case zc1 => exact Lw.cl_Ratio (by assumption)); (case zc2 => exact Lw.na_Ratio_top (by assumption)); (case zl1 => exact rfl); (case zl2 => walk_at "up")))
local macro_rules | `(tactic| walk_at "z") => `(tactic| ((with_reducible refine' z_fldb ?zc1 ?zc2 ?zl1 ?zl2 ?_); (case zc1 => exact Lw.cl_Ratio (by assumption)); (case zc2 => exact Lw.na_Ratio_bottom (by assumption)); (case zl1 => exact rfl); (case zl2 => walk_at "up")))
local macro_rules | `(tactic| walk_at "z") => `(tactic| ((with_reducible refine' z_fldG ?zc1 ?zc2 ?zl0 ?zl1 ?zl2 ?_); (case zc1 => exact Lw.cl_Poly (by assumption)); (case zc2 => exact Lw.na_Poly_numbers (by assumption)); (case zl0 => exact rfl); (case zl1 => walk_at "up"); (case zl2 => exact lkA)))
local macro_rules | `(tactic| walk_at "z") => `(tactic| ((with_reducible refine' z_fldG ?zc1 ?zc2 ?zl0 ?zl1 ?zl2 ?_); (case zc1 => exact Lw.cl_Poly (by assumption)); (case zc2 => exact Lw.na_Poly_over (by assumption)); (case zl0 => exact rfl); (case zl1 => walk_at "up"); (case zl2 => exact lkO)))
local macro_rules | `(tactic| walk_at "z") => `(tactic| ((with_reducible refine' z_fldG ?zc1 ?zc2 ?zl0 ?zl1 ?zl2 ?_); (case zc1 => exact Lw.cl_Poly (by assumption)); (case zc2 => exact Lw.na_Poly_degree (by assumption)); (case zl0 => exact rfl); (case zl1 => walk_at "up"); (case zl2 => exact lkD)))
local macro_rules | `(tactic| walk_at "z") => `(tactic| ((with_reducible refine' z_glst ?zl1 ?zl2 ?_); (case zl1 => walk_at "up"); (case zl2 => exact rfl)))
local macro_rules | `(tactic| walk_at "z") => `(tactic| ((with_reducible refine' z_ixLst ?zl1 ?zl2 ?_); (case zl1 => walk_at "up"); (case zl2 => exact rfl)))
local macro_rules | `(tactic| walk_at "z") => `(tactic| ((with_reducible refine' u_mtV ?zl1 ?_); (case zl1 => walk_at "up")))
local macro_rules | `(tactic| walk_at "z") => `(tactic| ((with_reducible refine' u_mtQP ?zl1 ?_); (case zl1 => walk_at "up")))
local macro_rules | `(tactic| walk_at "z") => `(tactic| ((with_reducible refine' z_fldG ?zc1 ?zc2 ?zl0 ?zl1 ?zl2 ?_); (case zc1 => exact Lw.cl_SixClaim (by assumption)); (case zc2 => exact Lw.na_SixClaim_letters (by assumption)); (case zl0 => exact rfl); (case zl1 => walk_at "up"); (case zl2 => exact lkA)))
local macro_rules | `(tactic| walk_at "z") => `(tactic| ((with_reducible refine' z_fldG ?zc1 ?zc2 ?zl0 ?zl1 ?zl2 ?_); (case zc1 => exact Lw.cl_SixClaim (by assumption)); (case zc2 => exact Lw.na_SixClaim_numbers (by assumption)); (case zl0 => exact rfl); (case zl1 => walk_at "up"); (case zl2 => exact (lkB (by decide +kernel) lkA))))
local macro_rules | `(tactic| walk_at "z") => `(tactic| ((with_reducible refine' z_fldG ?zc1 ?zc2 ?zl0 ?zl1 ?zl2 ?_); (case zc1 => exact Lw.cl_SixPaper (by assumption)); (case zc2 => exact Lw.na_SixPaper_block (by assumption)); (case zl0 => exact rfl); (case zl1 => walk_at "up"); (case zl2 => exact lkA)))
local macro_rules | `(tactic| walk_at "z") => `(tactic| ((with_reducible refine' z_fldG ?zc1 ?zc2 ?zl0 ?zl1 ?zl2 ?_); (case zc1 => exact Lw.cl_SixPaper (by assumption)); (case zc2 => exact Lw.na_SixPaper_amount (by assumption)); (case zl0 => exact rfl); (case zl1 => walk_at "up"); (case zl2 => exact (lkB (by decide +kernel) lkA))))
local macro_rules | `(tactic| walk_at "z") => `(tactic| ((with_reducible refine' z_fldG ?zc1 ?zc2 ?zl0 ?zl1 ?zl2 ?_); (case zc1 => exact Lw.cl_SixPaper (by assumption)); (case zc2 => exact Lw.na_SixPaper_rest (by assumption)); (case zl0 => exact rfl); (case zl1 => walk_at "up"); (case zl2 => exact (lkB (by decide +kernel) (lkB (by decide +kernel) lkA)))))
local macro_rules | `(tactic| walk_at "z") => `(tactic| ((with_reducible refine' u_mtSC ?zl1 ?_); (case zl1 => walk_at "up")))
local macro_rules | `(tactic| walk_at "z") => `(tactic| with_reducible refine z_eqB ?_)
local macro_rules | `(tactic| walk_at "z") => `(tactic| with_reducible refine z_isB ?_)
local macro_rules | `(tactic| walk_at "z") => `(tactic| with_reducible refine u_whole1 ?_)
local macro_rules | `(tactic| walk_at "z") => `(tactic| with_reducible refine z_conS ?_)
local macro_rules | `(tactic| walk_at "z") => `(tactic| with_reducible refine z_prpS ?_)
local macro_rules | `(tactic| walk_at "z") => `(tactic| with_reducible refine z_neStr ?_)
local macro_rules | `(tactic| walk_at "z") => `(tactic| with_reducible refine u_flg ?_)
theorem same62f {H H1 H2 : Hp} (h : Same H1 H2) (e : Same H H1) : Same H H2 := e.trans h
local macro_rules | `(tactic| walk_at "sm") => `(tactic| first
  | assumption
  | exact fun _ _ h => h
  | (refine' same62f (by assumption) ?zsm; case zsm => walk_at "sm"))
local macro_rules | `(tactic| walk_at "up") => `(tactic| first
  | assumption
  | (with_reducible refine' IsR.mono (by assumption) ?zup; case zup => walk_at "up")
  | (with_reducible refine' IsV.mono (by assumption) ?zup; case zup => walk_at "up")
  | (with_reducible refine' IsQ.mono (by assumption) ?zup; case zup => walk_at "up")
  | (with_reducible refine' QP.mono (by assumption) ?zup; case zup => walk_at "up")
  | (with_reducible refine' R3.mono (by assumption) ?zup; case zup => walk_at "up")
  | (with_reducible refine' Same.at (by assumption) ?zup; case zup => walk_at "up")
  | (with_reducible refine' Fr.mono (by assumption) ?zup; case zup => walk_at "up")
  | (with_reducible refine' FS.mono (by assumption) ?zup; case zup => walk_at "up")
  | (with_reducible refine' IsSC.mono (by assumption) ?zup; case zup => walk_at "up")
  | (with_reducible refine' L3.mono (by assumption) ?zup; case zup => walk_at "up")
  | (with_reducible refine' L34.mono (by assumption) ?zup; case zup => walk_at "up")
  | (with_reducible refine' L4.mono (by assumption) ?zup; case zup => walk_at "up")
  | (with_reducible refine' PU.mono (by assumption) ?zup; case zup => walk_at "up")
  | (with_reducible refine' IsPool.mono (by assumption) ?zup; case zup => walk_at "up")
  | (with_reducible refine' IsSix.mono (by assumption) ?zup; case zup => walk_at "up")
  | (with_reducible refine' Says.mono (by assumption) ?zup; case zup => walk_at "up")
  | (refine' And.left ?zup; case zup => assumption)
  | fail)
section
variable {P : Program} {w : World} {K : Frag} {mg : Str → Option Value} {base : Heap}
theorem ok_law_bent_parts (L : Lw K mg) {fd : FuncData} (F : FunD K "_law_bent_parts" "_law_bent_parts" (defArgs s_law_bent_parts) (defBody s_law_bent_parts) (defScope s_law_bent_parts) (df_law_bent_parts.dvs K) (df_law_bent_parts.kws K) (He.fAd K ("_law_bent_parts", none)) fd) : FnOk P w K mg base (L2N.CX P w) 14 (He.fAd K ("_law_bent_parts", none)) fd (["n", "k", "part", "rest", "low", "m"] : List Str) (sp6 (fs_bpt K)) := by
  refine FunD.ok F sc_law_bent_parts len6 (fun cdv A outer s H vs Q E hr h => ?_)
  obtain ⟨x1, x2, x3, x4, x5, x6, rfl, h⟩ := h
  refine ⟨_, (pss_cons (ps_set (i := 6) sc_law_bent_parts.nd rfl (by first | exact Or.inl rfl | exact Or.inr rfl) (pe_op o_rep (pe_op o_rep (pe_op o_rep (pe_op o_cat (pe_ix (ix_seqK (K := K) rfl) (pv 2) pe_int (fun _ _ => rfl)) pe_int) (pe_op o_cat (pv 0) pe_int)) (pe_op o_cat (pv 0) pe_int)) (pv 4)))
    (pss_cons (ps_set (i := 7) sc_law_bent_parts.nd rfl (by first | exact Or.inl rfl | exact Or.inr rfl) (pe_lst (pa_cons (pe_op o_cat (pe_ix (ix_seqK (K := K) rfl) (pv 3) pe_int (fun _ _ => rfl)) (pv 6)) (pa_cons (pe_ix (ix_seqK (K := K) rfl) (pv 3) pe_int (fun _ _ => rfl)) (pa_cons (pe_ix (ix_seqK (K := K) rfl) (pv 3) pe_int (fun _ _ => rfl)) pa_nil)))))
    (pss_cons (ps_if (pt_not (pt_val (pe_c (c_law_built (K := K) L) hr (by decide) (L2N.takes_of rfl rfl rfl rfl) (pa_cons (pv 0) (pa_cons (pv 1) (pa_cons (pe_lst (pa_cons (pe_op o_sub (pe_un o_neg (pe_ix (ix_seqK (K := K) rfl) (pv 2) pe_int (fun _ _ => rfl))) pe_int) (pa_cons (pe_ix (ix_seqK (K := K) rfl) (pv 2) pe_int (fun _ _ => rfl)) pa_nil))) (pa_cons (pv 7) (pa_cons (pv 4) (pa_cons pe_bl (pa_cons pe_bl pa_nil)))))))))) (pss_one (ps_ret pe_bl)) pss_nil)
    (pss_cons (ps_set (i := 8) sc_law_bent_parts.nd rfl (by first | exact Or.inl rfl | exact Or.inr rfl) (pe_op o_cat pe_int (pe_ix (ix_seqK (K := K) rfl) (pv 3) pe_int (fun _ _ => rfl))))
    (pss_cons (ps_set (i := 9) sc_law_bent_parts.nd rfl (by first | exact Or.inl rfl | exact Or.inr rfl) (pe_op o_cat (pe_op o_rep pe_int (pv 5)) pe_int))
    (pss_cons (ps_set (i := 10) sc_law_bent_parts.nd rfl (by first | exact Or.inl rfl | exact Or.inr rfl) (pe_lst (pa_cons (pe_op o_rep (pe_op o_rep (pv 8) (pv 9)) (pv 9)) (pa_cons (pe_op o_rep (pe_op o_rep (pe_un o_neg pe_int) (pv 8)) (pv 9)) (pa_cons (pe_op o_rep pe_int (pv 8)) pa_nil)))))
    (pss_cons (ps_if (pt_not (pt_val (pe_c (c_law_built (K := K) L) hr (by decide) (L2N.takes_of rfl rfl rfl rfl) (pa_cons (pv 0) (pa_cons (pv 1) (pa_cons (pv 2) (pa_cons (pv 10) (pa_cons (pv 4) (pa_cons pe_bl (pa_cons pe_bl pa_nil)))))))))) (pss_one (ps_ret pe_bl)) pss_nil)
    (pss_cons (ps_set (i := 11) sc_law_bent_parts.nd rfl (by first | exact Or.inl rfl | exact Or.inr rfl) (pe_lst (pa_cons (pe_op o_sub (pe_ix (ix_seqK (K := K) rfl) (pv 10) pe_int (fun _ _ => rfl)) pe_int) (pa_cons (pe_ix (ix_seqK (K := K) rfl) (pv 10) pe_int (fun _ _ => rfl)) (pa_cons (pe_ix (ix_seqK (K := K) rfl) (pv 10) pe_int (fun _ _ => rfl)) pa_nil)))))
    (pss_cons (ps_set (i := 12) sc_law_bent_parts.nd rfl (by first | exact Or.inl rfl | exact Or.inr rfl) (pe_lst (pa_cons pe_int (pa_cons (pv 8) (pa_cons pe_int pa_nil)))))
    (pss_cons (ps_set (i := 13) sc_law_bent_parts.nd rfl (by first | exact Or.inl rfl | exact Or.inr rfl) (pe_lst (pa_cons pe_int (pa_cons (pe_op o_cat (pv 0) pe_int) (pa_cons (pe_un o_neg pe_int) pa_nil)))))
    (pss_cons (ps_for (passes_of rfl) rfl (pi_listK (K := K) rfl (pe_lst (pa_cons (pv 11) (pa_cons (pv 12) (pa_cons (pv 13) pa_nil))))) (pg_name (i := 14) sc_law_bent_parts.nd rfl (by first | exact Or.inl rfl | exact Or.inr rfl)) (pss_one (ps_if (pt_not (pt_val (pe_c (c_law_built (K := K) L) hr (by decide) (L2N.takes_of rfl rfl rfl rfl) (pa_cons (pv 0) (pa_cons (pv 1) (pa_cons (pv 2) (pa_cons (pv 14) (pa_cons (pv 4) (pa_cons pe_bl (pa_cons pe_bl pa_nil)))))))))) (pss_one (ps_ret pe_bl)) pss_nil)))
    (pss_one (ps_ret (pe_c (c_law_built (K := K) L) hr (by decide) (L2N.takes_of rfl rfl rfl rfl) (pa_cons (pv 0) (pa_cons (pv 1) (pa_cons (pv 2) (pa_cons (pe_lst (pa_cons (pe_un o_neg pe_int) (pa_cons pe_int (pa_cons pe_int pa_nil)))) (pa_cons (pv 4) (pa_cons pe_bl (pa_cons pe_bl pa_nil))))))))))))))))))))), ?_⟩
  rw [show L2.start (["n", "k", "part", "rest", "low", "m", "more", "high", "w", "odd", "touch", "under", "slope", "hill", "some"] : List Str) [x1, x2, x3, x4, x5, x6] = [some x1, some x2, some x3, some x4, some x5, some x6, none, none, none, none, none, none, none, none, none] from rfl]
  obtain ⟨n, k, u, b, r0, r1, r2, low, m, p, r, rfl, rfl, rfl, rfl, rfl, rfl, hP, u0, u1, hR, r20, k0, kn, n1, n2, l0, bl, m1, m2, fin⟩ := h
  obtain ⟨hp, bu, b0, bbb⟩ := id hP
  obtain ⟨hr3, c0, c1, c2⟩ := id hR
  have hlow : low < 32 := by
    unfold Bits at bl
    have : (2 : Nat) ^ 5 = 32 := by decide
    omega
  have kn2 : k ≤ 200 := by omega
  try dsimp only [List.set]
  walk_at "zz"
  rename_i x7 H1 hx7 s1 e7 x8 H2 hx8 s2 e8
  have s12 := s1.trans s2
  have bmore : Bits 100 ((u + 1) * (n + 1) * (n + 1) * low) := (((bi (x := u + 1) (by omega) (by omega)).mul (bi (x := n + 1) (by omega) (by omega))).mul (bi (x := n + 1) (by omega) (by omega)) |>.mul bl).up (by decide)
  have bhigh : Bits 290 (r0 + (u + 1) * (n + 1) * (n + 1) * low) := (Bits.add (a := 240) c0 (bmore.up (by decide))).up (by decide)
  refine u_bld (u := -u - 1) ⟨e8, bi (by omega) (by omega), b0, bbb⟩ ⟨s2 _ _ e7, bhigh, c1.up (by decide), c2.up (by decide)⟩ k0 kn2 n1 n2 l0 bl (due_f fun z => absurd z.2.1 (by omega)) (fun H3 s3 => ?_)
  have s03 := s12.trans s3
  have hr33 := s03 _ _ hr3
  have hp3 := s03 _ _ hp
  try dsimp only [List.set]
  walk_at "zz"
  rename_i x10 H4 hx10 s4 e10
  have bw : Bits 241 (1 + r2) := Bits.add (a := 240) (Bits.up (Bits.small (n := 1) (by decide) (by decide)) (by decide)) c2
  have bo := bi (x := 2 * m + 1) (by omega) (by omega)
  have bt0 : Bits 285 ((1 + r2) * (2 * m + 1) * (2 * m + 1)) := ((bw.mul bo).mul bo).up (by decide)
  have bt1 : Bits 290 (-4 * (1 + r2) * (2 * m + 1)) := (((bi (x := -4) (by decide) (by decide)).mul bw).mul bo).up (by decide)
  have bt2 : Bits 290 (4 * (1 + r2)) := ((bi (x := 4) (by decide) (by decide)).mul bw).up (by decide)
  have w0 : 0 < 1 + r2 := by omega
  have s04 := s03.trans s4
  refine u_bld (hP.mono s04) ⟨e10, bt0.up (by decide), bt1, bt2⟩ k0 kn2 n1 n2 l0 bl (due_t ⟨kn, u0, touch_nn l0 w0⟩) (fun H5 s5 => ?_)
  have e105 := s5 _ _ e10
  have s05 := s04.trans s5
  have hp5 := s05 _ _ hp
  try dsimp only [List.set]
  walk_at "zz"
  rename_i x11 H6 hx11 s6 e11 x12 H7 hx12 s7 e12 x13 H8 hx13 s8 e13 x14 H9 hx14 s9 e14
  have s09 := s05.trans (((s6.trans s7).trans s8).trans s9)
  have all3 : ∀ (i : Nat) xx, [V.ref x11, V.ref x12, V.ref x13][i]? = some xx → ∃ a A B C, xx = .ref a ∧ L3 H9 a A B C 290 ∧ ¬ ∀ t, 0 ≤ S66.rv ((A : Rat) / low) ((B : Rat) / low) ((C : Rat) / low) t := fun i xx h => by
    rcases i with _ | _ | _ | i
    · cases h
      exact ⟨x11, _, _, _, rfl, ⟨s9 _ _ (s8 _ _ (s7 _ _ e11)), (Bits.add (a := 285) bt0 (Bits.up (Bits.small (n := 1) (i := -1) (by decide) (by decide)) (by decide))).up (by decide), bt1, bt2⟩, under_neg l0⟩
    · cases h
      exact ⟨x12, _, _, _, rfl, ⟨s9 _ _ (s8 _ _ e12), Bits.zero, bw.up (by decide), Bits.zero⟩, slope_neg l0 w0⟩
    · cases h
      exact ⟨x13, _, _, _, rfl, ⟨s9 _ _ e13, Bits.zero, (bi (by omega) (by omega)).up (by decide), (bi (x := -1) (by decide) (by decide)).up (by decide)⟩, hill_neg l0 (by omega)⟩
    · cases h
  refine z_foV e14 (fun i σ' H' => ∃ y : Option V, σ' = [some (.int n), some (.int k), some (.ref p), some (.ref r), some (.int low), some (.int m), some (.int ((u + 1) * (n + 1) * (n + 1) * low)), some (.ref x7), some (.int (1 + r2)), some (.int (2 * m + 1)), some (.ref x10), some (.ref x11), some (.ref x12), some (.ref x13), y] ∧ Same H9 H') ⟨_, rfl, fun _ _ h => h⟩ (fun i σ' H' z => by obtain ⟨_, _, s⟩ := z; exact s _ _ e14) ?_ ?_
  · rintro i xx σ' H' ex ⟨y, rfl, sh⟩
    obtain ⟨a, A, B, C, rfl, h3, hn⟩ := all3 i xx ex
    try dsimp only [List.set]
    walk_at "zz"
    refine u_bld ((hP.mono s09).mono sh) (h3.mono sh) k0 kn2 n1 n2 l0 bl (due_f fun z => hn z.2.2) (fun HA sA => ?_)
    try dsimp only [List.set]
    walk_at "zz"
    exact ⟨_, rfl, sh.trans sA⟩
  rintro σ' HB ⟨y, rfl, sB⟩
  try dsimp only [List.set]
  walk_at "zz"
  rename_i x15 HC hx15 sC e15
  exact u_bld ((hP.mono s09).mono (sB.trans sC)) ⟨e15, (bi (x := -1) (by decide) (by decide)).up (by decide), Bits.zero, Bits.zero⟩ k0 kn2 n1 n2 l0 bl (due_f fun z => one_neg l0 z.2.2) (fun HD sD => fin _ (((s09.trans sB).trans sC).trans sD))
theorem c_law_bent_parts (L : Lw K mg) : Cal P w K mg base 14 "_law_bent_parts" (sp6 (fs_bpt K)) [] := by
  obtain ⟨fd, F⟩ := L.d_law_bent_parts
  exact ⟨⟨_, fd, ["n", "k", "part", "rest", "low", "m"], [], ok_law_bent_parts L F, L.g_law_bent_parts, F.kp, F.bindsN (fun _ _ _ _ _ _ us hl => match us, hl with | [_, _, _, _, _, _], _ => rfl), .nil⟩⟩
theorem ok_law_bent_blocks (L : Lw K mg) {fd : FuncData} (F : FunD K "_law_bent_blocks" "_law_bent_blocks" (defArgs s_law_bent_blocks) (defBody s_law_bent_blocks) (defScope s_law_bent_blocks) (df_law_bent_blocks.dvs K) (df_law_bent_blocks.kws K) (He.fAd K ("_law_bent_blocks", none)) fd) : FnOk P w K mg base (L2N.CX P w) 14 (He.fAd K ("_law_bent_blocks", none)) fd (["n", "k", "part", "rest", "low"] : List Str) (sp5 (fs_bbl K)) := by
  refine FunD.ok F sc_law_bent_blocks len5 (fun cdv A outer s H vs Q E hr h => ?_)
  obtain ⟨x1, x2, x3, x4, x5, rfl, h⟩ := h
  refine ⟨_, (pss_cons (ps_set (i := 5) sc_law_bent_blocks.nd rfl (by first | exact Or.inl rfl | exact Or.inr rfl) (pe_lst (pa_cons (pe_op o_cat (pe_ix (ix_seqK (K := K) rfl) (pv 2) pe_int (fun _ _ => rfl)) pe_int) (pa_cons (pe_ix (ix_seqK (K := K) rfl) (pv 2) pe_int (fun _ _ => rfl)) pa_nil))))
    (pss_cons (ps_for (passes_of rfl) rfl (pi_listK (K := K) rfl (pe_lst (pa_cons (pv 0) (pa_cons pe_int pa_nil)))) (pg_name (i := 6) sc_law_bent_blocks.nd rfl (by first | exact Or.inl rfl | exact Or.inr rfl)) (pss_one (ps_if (pt_not (pt_val (pe_c (c_law_built (K := K) L) hr (by decide) (L2N.takes_of rfl rfl rfl rfl) (pa_cons (pv 0) (pa_cons (pv 6) (pa_cons (pv 5) (pa_cons (pv 3) (pa_cons (pv 4) (pa_cons pe_bl (pa_cons pe_bl pa_nil)))))))))) (pss_one (ps_ret pe_bl)) pss_nil)))
    (pss_cons (ps_if (PW.pt (pw_and (pt_cmpR o_lt (pv 0) pe_int (nomark _)) (pw_and1 (pt_not (pt_val (pe_c (c_law_built (K := K) L) hr (by decide) (L2N.takes_of rfl rfl rfl rfl) (pa_cons (pe_op o_cat (pv 0) pe_int) (pa_cons (pv 0) (pa_cons (pv 5) (pa_cons (pv 3) (pa_cons (pv 4) (pa_cons pe_bl (pa_cons pe_bl pa_nil))))))))))))) (pss_one (ps_ret pe_bl)) pss_nil)
    (pss_cons (ps_if (pt_not (pt_val (pe_c (c_law_built (K := K) L) hr (by decide) (L2N.takes_of rfl rfl rfl rfl) (pa_cons (pv 0) (pa_cons (pe_op o_sub (pv 0) pe_int) (pa_cons (pv 5) (pa_cons (pv 3) (pa_cons (pv 4) (pa_cons pe_bl (pa_cons pe_bl pa_nil)))))))))) (pss_one (ps_ret pe_bl)) pss_nil)
    (pss_one (ps_ret (pe_c (c_law_built (K := K) L) hr (by decide) (L2N.takes_of rfl rfl rfl rfl) (pa_cons (pv 0) (pa_cons (pv 1) (pa_cons (pe_lst (pa_cons pe_int (pa_cons (pe_ix (ix_seqK (K := K) rfl) (pv 2) pe_int (fun _ _ => rfl)) pa_nil))) (pa_cons (pv 3) (pa_cons (pv 4) (pa_cons pe_bl (pa_cons pe_bl pa_nil)))))))))))))), ?_⟩
  rw [show L2.start (["n", "k", "part", "rest", "low", "more", "block"] : List Str) [x1, x2, x3, x4, x5] = [some x1, some x2, some x3, some x4, some x5, none, none] from rfl]
  obtain ⟨n, k, u, b, r0, r1, r2, low, p, r, rfl, rfl, rfl, rfl, rfl, hP, u0, u1, hR, nn, k0, kn, n1, n2, l0, bl, fin⟩ := h
  obtain ⟨hp, bu, b0, bbb⟩ := id hP
  try dsimp only [List.set]
  walk_at "zz"
  rename_i x5 H1 hx5 s1 e5 x6 H2 hx6 s2 e6
  have s12 := s1.trans s2
  have hP1 : PU H2 x5 (u + 1) b := ⟨s2 _ _ e5, bi (by omega) (by omega), b0, bbb⟩
  refine z_foV (xs := [V.int n, V.int 200]) e6 (fun i σ' H' => ∃ y : Option V, σ' = [some (.int n), some (.int k), some (.ref p), some (.ref r), some (.int low), some (.ref x5), y] ∧ Same H2 H') ⟨_, rfl, fun _ _ h => h⟩ (fun i σ' H' z => by obtain ⟨_, _, s⟩ := z; exact s _ _ e6) ?_ ?_
  · rintro i xx σ' H' ex ⟨y, rfl, sh⟩
    obtain ⟨bk, rfl, b1, b2⟩ : ∃ bk : Int, xx = .int bk ∧ n ≤ bk ∧ bk ≤ 200 := by
      rcases i with _ | _ | i
      · cases ex
        exact ⟨n, rfl, Int.le_refl _, n2⟩
      · cases ex
        exact ⟨200, rfl, n2, Int.le_refl _⟩
      · cases ex
    try dsimp only [List.set]
    walk_at "zz"
    refine u_bld (hP1.mono sh) ((hR.mono s12).mono sh) (by omega) b2 n1 n2 l0 bl (due_f fun z => absurd z.1 (by omega)) (fun HA sA => ?_)
    try dsimp only [List.set]
    walk_at "zz"
    exact ⟨_, rfl, sh.trans sA⟩
  rintro σ' HB ⟨y, rfl, sB⟩
  try dsimp only [List.set]
  walk_at "zz"
  refine z_d2 (fun c => ?_) (fun c => ?_)
  · try dsimp only [List.set]
    walk_at "zz"
    refine u_bld (n := n + 1) (k := n) (hP1.mono sB) ((hR.mono s12).mono sB) (by omega) n2 (by omega) (by omega) l0 bl (due_t ⟨by omega, by omega, nn⟩) (fun HC sC => ?_)
    have sBC := sB.trans sC
    try dsimp only [List.set]
    walk_at "zz"
    refine u_bld (hP1.mono sBC) ((hR.mono s12).mono sBC) (by omega) (by omega) n1 n2 l0 bl (due_t ⟨by omega, by omega, nn⟩) (fun HM sM => ?_)
    have hpM := ((s12.trans sBC).trans sM) _ _ hp
    try dsimp only [List.set]
    walk_at "zz"
    rename_i x9 HN hx9 sN e9
    exact u_bld (u := 0) ⟨e9, Bits.zero, b0, bbb⟩ (((hR.mono s12).mono sBC).mono (sM.trans sN)) k0 (by omega) n1 n2 l0 bl (due_t ⟨kn, Int.le_refl 0, nn⟩) (fun HO sO => fin _ ((((s12.trans sBC).trans sM).trans sN).trans sO))
  · try dsimp only [List.set]
    walk_at "zz"
    refine u_bld (hP1.mono sB) ((hR.mono s12).mono sB) (by omega) (by omega) n1 n2 l0 bl (due_t ⟨by omega, by omega, nn⟩) (fun HM sM => ?_)
    have hpM := ((s12.trans sB).trans sM) _ _ hp
    try dsimp only [List.set]
    walk_at "zz"
    rename_i x9 HN hx9 sN e9
    exact u_bld (u := 0) ⟨e9, Bits.zero, b0, bbb⟩ (((hR.mono s12).mono sB).mono (sM.trans sN)) k0 (by omega) n1 n2 l0 bl (due_t ⟨kn, Int.le_refl 0, nn⟩) (fun HO sO => fin _ ((((s12.trans sB).trans sM).trans sN).trans sO))
theorem c_law_bent_blocks (L : Lw K mg) : Cal P w K mg base 14 "_law_bent_blocks" (sp5 (fs_bbl K)) [] := by
  obtain ⟨fd, F⟩ := L.d_law_bent_blocks
  exact ⟨⟨_, fd, ["n", "k", "part", "rest", "low"], [], ok_law_bent_blocks L F, L.g_law_bent_blocks, F.kp, F.bindsN (fun _ _ _ _ _ _ us hl => match us, hl with | [_, _, _, _, _], _ => rfl), .nil⟩⟩
end
end T
set_option maxHeartbeats 4000000
namespace T
open PySem PySem.Spec PyProof.Rows L2 Z
open S31 (cf)
open S30
theorem bent_ne {A d W f : Int} (W0 : 0 < W) (f0 : 0 < f) (hd : d ≠ 0) : ((A * f + d : Int) : Rat) / ((W * f : Int) : Rat) ≠ (A : Rat) / W := fun e => by
  have p : 0 < W * f := Int.mul_pos W0 f0
  have e1 := over_mul (A := A * f + d) p
  rw [e, Rat.intCast_add, Rat.intCast_mul, Rat.intCast_mul] at e1
  have e2 := over_mul (A := A) W0
  have : (d : Rat) = 0 := by grind
  exact ne_cast hd this
theorem c_ne (k : Int) : bC k ≠ 0 := by
  unfold bC
  split <;> decide
theorem dv_ne {u b : Int} (b0 : 0 < b) : ((u + 1 : Int) : Rat) / b ≠ (u : Rat) / b := fun e => by
  have e1 := over_mul (A := u + 1) b0
  have e2 := over_mul (A := u) b0
  rw [e, ← e2, Rat.intCast_add] at e1
  have : ((1 : Int) : Rat) = 0 := by grind
  exact absurd this (by decide)
theorem dv_0 {u b : Int} (b0 : 0 < b) : (u : Rat) / b = 0 ↔ u = 0 := by
  have e2 := over_mul (A := u) b0
  constructor
  · intro h
    rw [h, Rat.zero_mul] at e2
    exact Classical.byContradiction fun q => ne_cast q e2
  · rintro rfl
    have : ((0 : Int) : Rat) = 0 := rfl
    rw [this]
    grind
/-- the sums with n letters, block k: what they show otherwise -/
theorem shw_amount {k n u b : Int} {a c d x y z : Rat} (b0 : 0 < b) (ec : d = z + bC k * ((u : Rat) / b)) : ¬ Shw k n a c d (((u + 1 : Int) : Rat) / b) x y z := fun h => by
  have e := h.2.2.2.2.2
  rw [ec] at e
  have : bC k * (((u + 1 : Int) : Rat) / b - (u : Rat) / b) = 0 := by grind
  rcases Rat.mul_eq_zero.mp this with q | q
  · exact c_ne k q
  · exact dv_ne (u := u) b0 (by grind)
theorem shw_up {k n r low : Int} {a c d A y z : Rat} (l0 : 0 < low) (ea : a = (r : Rat) / low + bA k n * A) : ¬ Shw k n a c d A (((r + 1 : Int) : Rat) / low) y z := fun h => by
  have e := h.2.2.2.1
  rw [ea] at e
  exact dv_ne (u := r) l0 (by grind)
theorem shw_other {k o n u b : Int} {a c d x y z : Rat} (b0 : 0 < b) (ne : o ≠ k) (on : o < n) (u0 : 0 ≤ u) (nn : ∀ t, 0 ≤ S66.rv x y z t) (ea : a = x + bA k n * ((u : Rat) / b)) (eb : c = y + bB k n * ((u : Rat) / b)) (ec : d = z + bC k * ((u : Rat) / b)) : Shw o n a c d ((u : Rat) / b) x y z ↔ u = 0 := by
  rw [← dv_0 b0]
  have g := dv_ge (u := u) b0
  generalize hA : (u : Rat) / b = A at *
  constructor
  · intro h
    obtain ⟨_, _, _, h1, h2, h3⟩ := h
    rw [eb] at h2
    rw [ec] at h3
    unfold bC at h3
    by_cases k0 : k = 0
    · rw [if_pos k0, if_neg (by omega)] at h3
      grind
    · by_cases o0 : o = 0
      · rw [if_neg k0, if_pos o0] at h3
        grind
      · unfold bB at h2
        rw [if_neg k0, if_neg o0] at h2
        have m : ((o : Rat) - (k : Rat)) * A = 0 := by grind
        rcases Rat.mul_eq_zero.mp m with q | q
        · exact absurd (show o - k = 0 from by
            have : ((o - k : Int) : Rat) = ((0 : Int) : Rat) := by rw [Rat.intCast_sub, q]; rfl
            exact_mod_cast this) (by omega)
        · exact q
  · intro A0
    refine ⟨on, g.mpr u0, nn, ?_, ?_, ?_⟩
    · rw [ea, A0]
      grind
    · rw [eb, A0]
      grind
    · rw [ec, A0]
      grind
theorem shw_letters {k m n u b : Int} {a c d x y z : Rat} (b0 : 0 < b) (k0 : 0 ≤ k) (ne : m ≠ n) (u0 : 0 ≤ u) (nn : ∀ t, 0 ≤ S66.rv x y z t) (ea : a = x + bA k n * ((u : Rat) / b)) (eb : c = y + bB k n * ((u : Rat) / b)) (ec : d = z + bC k * ((u : Rat) / b)) : Shw k m a c d ((u : Rat) / b) x y z ↔ k < m ∧ (0 < k ∨ u = 0) := by
  rw [← dv_0 b0]
  have g := dv_ge (u := u) b0
  generalize hA : (u : Rat) / b = A at *
  constructor
  · intro h
    obtain ⟨h0, _, _, h1, h2, h3⟩ := h
    refine ⟨h0, ?_⟩
    by_cases kz : k = 0
    · right
      rw [ea] at h1
      unfold bA at h1
      rw [if_pos kz, if_pos kz] at h1
      have mm : ((m : Rat) - (n : Rat)) * A = 0 := by grind
      rcases Rat.mul_eq_zero.mp mm with q | q
      · exact absurd (show m - n = 0 from by
          have : ((m - n : Int) : Rat) = ((0 : Int) : Rat) := by rw [Rat.intCast_sub, q]; rfl
          exact_mod_cast this) (by omega)
      · exact q
    · left
      omega
  · rintro ⟨h0, h1⟩
    refine ⟨h0, g.mpr u0, nn, ?_, ?_, ec⟩
    · rw [ea]
      unfold bA
      rcases h1 with h1 | h1
      · rw [if_neg (by omega), if_neg (by omega)]
      · rw [h1]
        grind
    · rw [eb]
      unfold bB
      rcases h1 with h1 | h1
      · rw [if_neg (by omega), if_neg (by omega)]
      · rw [h1]
        grind
theorem u_ask {K : Frag} {H : Hp} {Q : VK} {E : XK} {n k A B C w u b r0 r1 r2 low : Int} {q p r : Addr} {due : Bool} (hQ : L4 H q A B C w 390) (hP : PU H p u b) (hR : L3 H r r0 r1 r2 290) (k0 : 0 ≤ k) (k1 : k ≤ 200) (n1 : 2 ≤ n) (n2 : n ≤ 200) (l0 : 0 < low) (bl : Bits 5 low)
    (hdue : due = true ↔ Shw k n ((A : Rat) / w) ((B : Rat) / w) ((C : Rat) / w) ((u : Rat) / b) ((r0 : Rat) / low) ((r1 : Rat) / low) ((r2 : Rat) / low)) (fin : ∀ H', Same H H' → Q (.bl true) H') : sp7 (fs_lask K) [.int n, .ref q, .int k, .ref p, .ref r, .int low, .bl due] H Q E :=
  ⟨_, _, _, _, _, _, _, rfl, n, k, A, B, C, w, u, b, r0, r1, r2, low, q, p, r, due, rfl, rfl, rfl, rfl, rfl, rfl, rfl, hQ, hP, hR, k0, k1, n1, n2, l0, bl, hdue, fin⟩
theorem z_chain {r r' : R2} {ta tb tc : TE} {σ : L2.St} {H : Hp} {Q : VK} (q : ta σ H fun x H1 => tb σ H1 fun y H2 => r x y H2 fun z H3 => ∃ k, z = .bl k ∧ (if k = true then tc σ H3 fun w' H4 => r' y w' H4 Q else Q (.bl false) H3)) : tChain r r' ta tb tc σ H Q := q
theorem four_ex {xs : List V} (h : xs.length = 4) : ∃ x y z w, xs = [x, y, z, w] := by
  match xs, h with
  | [x, y, z, w], _ => exact ⟨x, y, z, w, rfl⟩
theorem cf4b {A B C D : Int} {N : Nat} (ba : Bits N A) (bb : Bits N B) (bc : Bits N C) (bd : Bits N D) (k : Nat) : Bits N (cf [A, B, C, D] k) := by
  match k with
  | 0 => exact ba
  | 1 => exact bb
  | 2 => exact bc
  | 3 => exact bd
  | k + 4 =>
    rw [S31.cf_out (by show 4 ≤ k + 4; omega)]
    exact Bits.zero
theorem at44 {A B C D : Int} {j : Nat} {x : V} (h : [V.int A, V.int B, V.int C, V.int D][j]? = some x) : x = .int (cf [A, B, C, D] j) := by
  rcases j with _ | _ | _ | _ | j
  · cases h
    rfl
  · cases h
    rfl
  · cases h
    rfl
  · cases h
    rfl
  · cases h
def fs_bcl (K : Frag) : F7 := fun x1 x2 x3 x4 x5 x6 x7 H Q _ => ∃ (n k u b r0 r1 r2 low fine step : Int) (p r : Addr), x1 = .int n ∧ x2 = .int k ∧ x3 = .ref p ∧ x4 = .ref r ∧ x5 = .int low ∧ x6 = .int fine ∧ x7 = .int step ∧
  PU H p u b ∧ 0 ≤ u ∧ u ≤ 1000 ∧ L3 H r r0 r1 r2 240 ∧ (∀ t, 0 ≤ S66.rv ((r0 : Rat) / low) ((r1 : Rat) / low) ((r2 : Rat) / low) t) ∧ 0 ≤ k ∧ k < n ∧ 2 ≤ n ∧ n ≤ 200 ∧ 0 < low ∧ Bits 5 low ∧ 0 < fine ∧ Bits 100 fine ∧ 0 ≤ step ∧ step ≤ 1000 ∧ ∀ H', Same H H' → Q (.bl true) H'
local macro_rules | `(tactic| walk_at "up") => `(tactic| first
  | assumption
  | (refine' IsR.mono (by assumption) ?zup; case zup => walk_at "up")
  | (refine' IsE.mono (by assumption) ?zup; case zup => walk_at "up")
  | (refine' Same.at (by assumption) ?zup; case zup => walk_at "up")
  | (refine' SqL.of ?zup; case zup => walk_at "up")
  | (refine' L2.Same.seq (by assumption) ?zup; case zup => walk_at "up"))
local macro_rules | `(tactic| walk_at "z") => `(tactic| first
  | ((with_reducible refine' z_var ?zvh ?_); (case zvh => exact rfl))
  | with_reducible refine z_c ?_
  | with_reducible refine z_cons ?_
  | with_reducible refine z_nil ?_
  | with_reducible refine z_op ?_
  | with_reducible refine z_nx ?_
  | with_reducible refine z_seq ?_
  | with_reducible refine z_asg ?_
  | with_reducible refine z_asgG ?_
  | with_reducible refine z_call ?_
  | with_reducible refine z_sq0 ?_
  | with_reducible refine z_sq1 ?_
  | with_reducible refine z_ifS ?_
  | with_reducible refine z_test ?_
  | with_reducible refine z_tb ?_
  | with_reducible refine z_bl ?_
  | with_reducible refine z_blI ?_
  | with_reducible refine z_ret ?_
  | with_reducible refine z_rt ?_
  | with_reducible refine z_T ?_
  | with_reducible refine z_F ?_
  | with_reducible refine z_add ?_
  | with_reducible refine z_sub ?_
  | with_reducible refine z_neg ?_
  | with_reducible refine z_un ?_
  | with_reducible refine z_eqI ?_
  | with_reducible refine z_neI ?_
  | with_reducible refine z_lt ?_
  | with_reducible refine z_le ?_
  | with_reducible refine z_gt ?_
  | with_reducible refine z_ge ?_
  | with_reducible refine z_not ?_
  | with_reducible refine z_and ?_
  | with_reducible refine z_or ?_
  | with_reducible refine z_andV ?_
  | with_reducible refine z_orV ?_
  | with_reducible refine z_notV ?_
  | with_reducible refine z_if ?_
  | with_reducible refine z_cb ?_
  | with_reducible refine z_int1 ?_
  | with_reducible refine z_intb ?_
  | with_reducible refine z_abs ?_
  | with_reducible refine z_gcd ?_
  | with_reducible refine z_isi_ii ?_
  | with_reducible refine z_isi_ib ?_
  | with_reducible refine z_next ?_
  | with_reducible refine z_drop ?_
  | with_reducible refine z_par ?_
  | with_reducible refine z_par2 ?_
  | with_reducible refine z_tupN ?_
  | with_reducible refine z_lstN ?_
  | ((with_reducible refine' z_nt ?zl1 ?_); (case zl1 => exact Nat.le_of_ble_eq_true rfl); intro p H' hp hs he)
  | ((with_reducible refine' z_gtup ?zl1 ?zl2 ?_); (case zl1 => walk_at "up"); (case zl2 => exact rfl))
  | with_reducible refine z_bk ?_
  | with_reducible refine z_ct ?_
  | with_reducible refine z_break ?_
  | with_reducible refine z_cont ?_
  | with_reducible refine z_retN ?_
  | with_reducible refine z_nn ?_
  | with_reducible refine z_mk ?_
  | with_reducible refine z_gn ?_
  | with_reducible refine z_gcons ?_
  | with_reducible refine z_gnil ?_
  | with_reducible refine z_mt ?_
  | with_reducible refine z_mko ?_
  | with_reducible refine z_for2 ?_
  | with_reducible refine z_ownI ?_
  | ((with_reducible refine' z_lenL ?zl1 ?_); (case zl1 => walk_at "up"))
  | ((with_reducible refine' z_ixT ?zl1 ?zl2 ?_); (case zl1 => walk_at "up"); (case zl2 => exact rfl))
  | ((with_reducible refine' z_mulL ?zl1 ?zl2 ?_); (case zl1 => omega); (case zl2 => omega))
  | ((with_reducible refine' z_mulR ?zl1 ?zl2 ?_); (case zl1 => omega); (case zl2 => omega))
  | ((with_reducible refine' z_divS ?zl1 ?zl2 ?_); (case zl1 => omega); (case zl2 => omega))
  | ((with_reducible refine' z_mulW ?zl1 ?zl2 ?zl3 ?zl4 ?_); (case zl1 => omega); (case zl2 => omega); (case zl3 => omega); (case zl4 => omega))
  | ((with_reducible refine' z_divW ?zl1 ?zl2 ?_); (case zl1 => omega); (case zl2 => omega)))
local macro_rules | `(tactic| walk_at "zz") => `(tactic| repeat (walk_at "z"))
local macro_rules | `(tactic| walk_at "z") => `(tactic| with_reducible refine z_lstN ?_)
local macro_rules | `(tactic| walk_at "z") => `(tactic| with_reducible refine z_p6 ?_)
local macro_rules | `(tactic| walk_at "z") => `(tactic| with_reducible refine z_p12 ?_)
local macro_rules | `(tactic| walk_at "z") => `(tactic| with_reducible refine z_p13 ?_)
local macro_rules | `(tactic| walk_at "z") => `(tactic| with_reducible refine z_calln ?_)
local macro_rules | `(tactic| walk_at "z") => `(tactic| with_reducible refine z_xfS ?_)
local macro_rules | `(tactic| walk_at "z") => `(tactic| with_reducible refine z_lcS ?_)
local macro_rules | `(tactic| walk_at "z") => `(tactic| with_reducible refine z_lcRS ?_)
local macro_rules | `(tactic| walk_at "z") => `(tactic| with_reducible refine z_lcZS ?_)
local macro_rules | `(tactic| walk_at "z") => `(tactic| with_reducible refine z_foS ?_)
local macro_rules | `(tactic| walk_at "z") => `(tactic| with_reducible refine z_for1 ?_)
local macro_rules | `(tactic| walk_at "z") => `(tactic| with_reducible refine z_tsl ?_)
local macro_rules | `(tactic| walk_at "z") => `(tactic| with_reducible refine z_np ?_)
local macro_rules | `(tactic| walk_at "z") => `(tactic| with_reducible refine z_pt ?_)
local macro_rules | `(tactic| walk_at "z") => `(tactic| with_reducible refine z_pti ?_)
local macro_rules | `(tactic| walk_at "z") => `(tactic| with_reducible refine z_catI ?_)
local macro_rules | `(tactic| walk_at "z") => `(tactic| with_reducible refine z_isNI ?_)
local macro_rules | `(tactic| walk_at "z") => `(tactic| with_reducible refine z_isNN ?_)
local macro_rules | `(tactic| walk_at "z") => `(tactic| with_reducible refine z_notNI ?_)
local macro_rules | `(tactic| walk_at "z") => `(tactic| with_reducible refine z_notNN ?_)
local macro_rules | `(tactic| walk_at "z") => `(tactic| with_reducible refine z_gsub ?_)
local macro_rules | `(tactic| walk_at "z") => `(tactic| with_reducible refine z_isNb ?_)
local macro_rules | `(tactic| walk_at "z") => `(tactic| with_reducible refine z_notNb ?_)
local macro_rules | `(tactic| walk_at "z") => `(tactic| ((with_reducible refine' z_nlR ?zl1 ?_); (case zl1 => exact Nat.le_of_ble_eq_true rfl); intro p H' hp hs he))
local macro_rules | `(tactic| walk_at "z") => `(tactic| ((with_reducible refine' z_repR ?zl1 ?zl2 ?_); (case zl1 => omega); (case zl2 => omega)))
local macro_rules | `(tactic| walk_at "z") => `(tactic| ((with_reducible refine' z_repL ?zl1 ?zl2 ?_); (case zl1 => omega); (case zl2 => omega)))
local macro_rules | `(tactic| walk_at "z") => `(tactic| ((with_reducible refine' z_lenLst ?zl1 ?_); (case zl1 => walk_at "up")))
local macro_rules | `(tactic| walk_at "z") => `(tactic| ((with_reducible refine' z_cat ?zl1 ?zl2 ?zl3 ?_); (case zl1 => walk_at "up"); (case zl2 => walk_at "up"); (case zl3 => (simp only [List.length_map, List.length_cons, List.length_nil, List.length_append, List.length_replicate]; omega)); intro p H' hp hs he))
local macro_rules | `(tactic| walk_at "z") => `(tactic| with_reducible refine z_sfl ?_)
local macro_rules | `(tactic| walk_at "z") => `(tactic| with_reducible refine z_lcES ?_)
local macro_rules | `(tactic| walk_at "z") => `(tactic| with_reducible refine z_lcMS ?_)
local macro_rules | `(tactic| walk_at "z") => `(tactic| with_reducible refine z_foES ?_)
local macro_rules | `(tactic| walk_at "z") => `(tactic| with_reducible refine z_fo3S ?_)
local macro_rules | `(tactic| walk_at "z") => `(tactic| with_reducible refine z_sta ?_)
local macro_rules | `(tactic| walk_at "z") => `(tactic| with_reducible refine z_sta1 ?_)
local macro_rules | `(tactic| walk_at "z") => `(tactic| with_reducible refine z_lcTS ?_)
local macro_rules | `(tactic| walk_at "z") => `(tactic| with_reducible refine z_foTS ?_)
local macro_rules | `(tactic| walk_at "z") => `(tactic| with_reducible refine z_revTS ?_)
local macro_rules | `(tactic| walk_at "z") => `(tactic| with_reducible refine z_max2 ?_)
local macro_rules | `(tactic| walk_at "z") => `(tactic| with_reducible refine z_fldS ?_)
local macro_rules | `(tactic| walk_at "z") => `(tactic| ((with_reducible refine' z_fdt ?zc1 ?zc2 ?zl2 ?_); (case zc1 => exact Lw.cl_Ratio (by assumption)); (case zc2 => exact Lw.na_Ratio_top (by assumption)); (case zl2 => walk_at "up")))
local macro_rules | `(tactic| walk_at "z") => `(tactic| ((with_reducible refine' z_fdb ?zc1 ?zc2 ?zl2 ?_); (case zc1 => exact Lw.cl_Ratio (by assumption)); (case zc2 => exact Lw.na_Ratio_bottom (by assumption)); (case zl2 => walk_at "up")))
local macro_rules | `(tactic| walk_at "z") => `(tactic| ((with_reducible refine' z_fldt ?zc1 ?zc2 ?zl1 ?zl2 ?_); (case zc1 => exact Lw.cl_Ratio (by assumption)); (case zc2 => exact Lw.na_Ratio_top (by assumption)); (case zl1 => exact rfl); (case zl2 => walk_at "up")))
local macro_rules | `(tactic| walk_at "z") => `(tactic| ((with_reducible refine' z_fldb ?zc1 ?zc2 ?zl1 ?zl2 ?_); (case zc1 => exact Lw.cl_Ratio (by assumption)); (case zc2 => exact Lw.na_Ratio_bottom (by assumption)); (case zl1 => exact rfl); (case zl2 => walk_at "up")))
local macro_rules | `(tactic| walk_at "z") => `(tactic| ((with_reducible refine' z_fldG ?zc1 ?zc2 ?zl0 ?zl1 ?zl2 ?_); (case zc1 => exact Lw.cl_Poly (by assumption)); (case zc2 => exact Lw.na_Poly_numbers (by assumption)); (case zl0 => exact rfl); (case zl1 => walk_at "up"); (case zl2 => exact lkA)))
local macro_rules | `(tactic| walk_at "z") => `(tactic| ((with_reducible refine' z_fldG ?zc1 ?zc2 ?zl0 ?zl1 ?zl2 ?_); (case zc1 => exact Lw.cl_Poly (by assumption)); (case zc2 => exact Lw.na_Poly_over (by assumption)); (case zl0 => exact rfl); (case zl1 => walk_at "up"); (case zl2 => exact lkO)))
local macro_rules | `(tactic| walk_at "z") => `(tactic| ((with_reducible refine' z_fldG ?zc1 ?zc2 ?zl0 ?zl1 ?zl2 ?_); (case zc1 => exact Lw.cl_Poly (by assumption)); (case zc2 => exact Lw.na_Poly_degree (by assumption)); (case zl0 => exact rfl); (case zl1 => walk_at "up"); (case zl2 => exact lkD)))
local macro_rules | `(tactic| walk_at "z") => `(tactic| ((with_reducible refine' z_glst ?zl1 ?zl2 ?_); (case zl1 => walk_at "up"); (case zl2 => exact rfl)))
local macro_rules | `(tactic| walk_at "z") => `(tactic| ((with_reducible refine' z_ixLst ?zl1 ?zl2 ?_); (case zl1 => walk_at "up"); (case zl2 => exact rfl)))
local macro_rules | `(tactic| walk_at "z") => `(tactic| ((with_reducible refine' u_mtV ?zl1 ?_); (case zl1 => walk_at "up")))
local macro_rules | `(tactic| walk_at "z") => `(tactic| ((with_reducible refine' u_mtQP ?zl1 ?_); (case zl1 => walk_at "up")))
local macro_rules | `(tactic| walk_at "z") => `(tactic| ((with_reducible refine' z_fldG ?zc1 ?zc2 ?zl0 ?zl1 ?zl2 ?_); (case zc1 => exact Lw.cl_SixClaim (by assumption)); (case zc2 => exact Lw.na_SixClaim_letters (by assumption)); (case zl0 => exact rfl); (case zl1 => walk_at "up"); (case zl2 => exact lkA)))
local macro_rules | `(tactic| walk_at "z") => `(tactic| ((with_reducible refine' z_fldG ?zc1 ?zc2 ?zl0 ?zl1 ?zl2 ?_); (case zc1 => exact Lw.cl_SixClaim (by assumption)); (case zc2 => exact Lw.na_SixClaim_numbers (by assumption)); (case zl0 => exact rfl); (case zl1 => walk_at "up"); (case zl2 => exact (lkB (by decide +kernel) lkA))))
local macro_rules | `(tactic| walk_at "z") => `(tactic| ((with_reducible refine' z_fldG ?zc1 ?zc2 ?zl0 ?zl1 ?zl2 ?_); (case zc1 => exact Lw.cl_SixPaper (by assumption)); (case zc2 => exact Lw.na_SixPaper_block (by assumption)); (case zl0 => exact rfl); (case zl1 => walk_at "up"); (case zl2 => exact lkA)))
local macro_rules | `(tactic| walk_at "z") => `(tactic| ((with_reducible refine' z_fldG ?zc1 ?zc2 ?zl0 ?zl1 ?zl2 ?_); (case zc1 => exact Lw.cl_SixPaper (by assumption)); (case zc2 => exact Lw.na_SixPaper_amount (by assumption)); (case zl0 => exact rfl); (case zl1 => walk_at "up"); (case zl2 => exact (lkB (by decide +kernel) lkA))))
local macro_rules | `(tactic| walk_at "z") => `(tactic| ((with_reducible refine' z_fldG ?zc1 ?zc2 ?zl0 ?zl1 ?zl2 ?_); (case zc1 => exact Lw.cl_SixPaper (by assumption)); (case zc2 => exact Lw.na_SixPaper_rest (by assumption)); (case zl0 => exact rfl); (case zl1 => walk_at "up"); (case zl2 => exact (lkB (by decide +kernel) (lkB (by decide +kernel) lkA)))))
local macro_rules | `(tactic| walk_at "z") => `(tactic| ((with_reducible refine' u_mtSC ?zl1 ?_); (case zl1 => walk_at "up")))
local macro_rules | `(tactic| walk_at "z") => `(tactic| with_reducible refine z_eqB ?_)
local macro_rules | `(tactic| walk_at "z") => `(tactic| with_reducible refine z_isB ?_)
local macro_rules | `(tactic| walk_at "z") => `(tactic| with_reducible refine u_whole1 ?_)
local macro_rules | `(tactic| walk_at "z") => `(tactic| with_reducible refine z_conS ?_)
local macro_rules | `(tactic| walk_at "z") => `(tactic| with_reducible refine z_prpS ?_)
local macro_rules | `(tactic| walk_at "z") => `(tactic| with_reducible refine z_neStr ?_)
local macro_rules | `(tactic| walk_at "z") => `(tactic| with_reducible refine u_flg ?_)
local macro_rules | `(tactic| walk_at "z") => `(tactic| with_reducible refine z_chain ?_)
local macro_rules | `(tactic| walk_at "z") => `(tactic| with_reducible refine z_andV ?_)
local macro_rules | `(tactic| walk_at "z") => `(tactic| with_reducible refine z_orV ?_)
theorem same62g {H H1 H2 : Hp} (h : Same H1 H2) (e : Same H H1) : Same H H2 := e.trans h
local macro_rules | `(tactic| walk_at "sm") => `(tactic| first
  | assumption
  | exact fun _ _ h => h
  | (refine' same62g (by assumption) ?zsm; case zsm => walk_at "sm"))
local macro_rules | `(tactic| walk_at "up") => `(tactic| first
  | assumption
  | (with_reducible refine' IsR.mono (by assumption) ?zup; case zup => walk_at "up")
  | (with_reducible refine' IsV.mono (by assumption) ?zup; case zup => walk_at "up")
  | (with_reducible refine' IsQ.mono (by assumption) ?zup; case zup => walk_at "up")
  | (with_reducible refine' QP.mono (by assumption) ?zup; case zup => walk_at "up")
  | (with_reducible refine' R3.mono (by assumption) ?zup; case zup => walk_at "up")
  | (with_reducible refine' Same.at (by assumption) ?zup; case zup => walk_at "up")
  | (with_reducible refine' Fr.mono (by assumption) ?zup; case zup => walk_at "up")
  | (with_reducible refine' FS.mono (by assumption) ?zup; case zup => walk_at "up")
  | (with_reducible refine' IsSC.mono (by assumption) ?zup; case zup => walk_at "up")
  | (with_reducible refine' L3.mono (by assumption) ?zup; case zup => walk_at "up")
  | (with_reducible refine' L34.mono (by assumption) ?zup; case zup => walk_at "up")
  | (with_reducible refine' L4.mono (by assumption) ?zup; case zup => walk_at "up")
  | (with_reducible refine' PU.mono (by assumption) ?zup; case zup => walk_at "up")
  | (with_reducible refine' IsPool.mono (by assumption) ?zup; case zup => walk_at "up")
  | (with_reducible refine' IsSix.mono (by assumption) ?zup; case zup => walk_at "up")
  | (with_reducible refine' Says.mono (by assumption) ?zup; case zup => walk_at "up")
  | (refine' And.left ?zup; case zup => assumption)
  | fail)
section
variable {P : Program} {w : World} {K : Frag} {mg : Str → Option Value} {base : Heap}
theorem ok_law_bent_claims (L : Lw K mg) {fd : FuncData} (F : FunD K "_law_bent_claims" "_law_bent_claims" (defArgs s_law_bent_claims) (defBody s_law_bent_claims) (defScope s_law_bent_claims) (df_law_bent_claims.dvs K) (df_law_bent_claims.kws K) (He.fAd K ("_law_bent_claims", none)) fd) : FnOk P w K mg base (L2N.CX P w) 13 (He.fAd K ("_law_bent_claims", none)) fd (["n", "k", "part", "rest", "low", "fine", "step"] : List Str) (sp7 (fs_bcl K)) := by
  refine FunD.ok F sc_law_bent_claims len7 (fun cdv A outer s H vs Q E hr h => ?_)
  obtain ⟨x1, x2, x3, x4, x5, x6, x7, rfl, h⟩ := h
  refine ⟨_, (pss_cons (ps_set (i := 7) sc_law_bent_claims.nd rfl (by first | exact Or.inl rfl | exact Or.inr rfl) (pe_c (c_law_sum (K := K) L) hr (by decide) (L2N.takes_of rfl rfl rfl rfl) (pa_cons (pv 0) (pa_cons (pv 1) (pa_cons (pv 2) (pa_cons (pv 3) (pa_cons (pv 4) pa_nil)))))))
    (pss_cons (ps_for (passes_of rfl) rfl (pi_range1 (by rfl) L.f_range (pa_cons pe_int pa_nil)) (pg_name (i := 8) sc_law_bent_claims.nd rfl (by first | exact Or.inl rfl | exact Or.inr rfl)) (pss_cons (ps_setLc (i := 9) (own := [("x", 10)]) (g := (gName 10)) (tt := tYes) rfl sc_law_bent_claims.nd rfl rfl (sw_true rfl rfl rfl (by decide +kernel)) (pi_listK (K := K) rfl (pv 7)) (blkOk_by (N := ["n", "k", "part", "rest", "low", "fine", "step", "q", "i", "row", "x", "up", "other", "letters", "due"]) (sc := defScope s_law_bent_claims) (by decide +kernel)) (fun _ _ _ _ _ => pg_name (i := 10) sc_law_bent_claims.nd rfl (Or.inl rfl)) (fun _ _ _ _ _ => pts_nil) (fun _ _ _ _ _ => (pe_op o_rep (pv 10) (pv 5))))
    (pss_cons (ps_asg (pe_op o_sub (pe_op o_cat (pe_ix (ix_seqK (K := K) rfl) (pv 9) (pv 8) (fun _ _ => rfl)) pe_int) (pe_op o_rep pe_int (pe_op o_mod (pv 6) pe_int))) (pg_sub (pv 9) (pv 8) set_list))
    (pss_one (ps_if (pt_not (pt_val (pe_c (c_law_ask (K := K) L) hr (by decide) (L2N.takes_of rfl rfl rfl rfl) (pa_cons (pv 0) (pa_cons (pv 9) (pa_cons (pv 1) (pa_cons (pv 2) (pa_cons (pv 3) (pa_cons (pv 4) (pa_cons pe_bl pa_nil)))))))))) (pss_one (ps_ret pe_bl)) pss_nil)))))
    (pss_cons (ps_if (pt_not (pt_val (pe_c (c_law_ask (K := K) L) hr (by decide) (L2N.takes_of rfl rfl rfl rfl) (pa_cons (pv 0) (pa_cons (pv 7) (pa_cons (pv 1) (pa_cons (pe_lst (pa_cons (pe_op o_cat (pe_ix (ix_seqK (K := K) rfl) (pv 2) pe_int (fun _ _ => rfl)) pe_int) (pa_cons (pe_ix (ix_seqK (K := K) rfl) (pv 2) pe_int (fun _ _ => rfl)) pa_nil))) (pa_cons (pv 3) (pa_cons (pv 4) (pa_cons pe_bl pa_nil)))))))))) (pss_one (ps_ret pe_bl)) pss_nil)
    (pss_cons (ps_set (i := 11) sc_law_bent_claims.nd rfl (by first | exact Or.inl rfl | exact Or.inr rfl) (pe_lst (pa_cons (pe_op o_cat (pe_ix (ix_seqK (K := K) rfl) (pv 3) pe_int (fun _ _ => rfl)) pe_int) (pa_cons (pe_ix (ix_seqK (K := K) rfl) (pv 3) pe_int (fun _ _ => rfl)) (pa_cons (pe_ix (ix_seqK (K := K) rfl) (pv 3) pe_int (fun _ _ => rfl)) pa_nil)))))
    (pss_cons (ps_if (pt_not (pt_val (pe_c (c_law_ask (K := K) L) hr (by decide) (L2N.takes_of rfl rfl rfl rfl) (pa_cons (pv 0) (pa_cons (pv 7) (pa_cons (pv 1) (pa_cons (pv 2) (pa_cons (pv 11) (pa_cons (pv 4) (pa_cons pe_bl pa_nil)))))))))) (pss_one (ps_ret pe_bl)) pss_nil)
    (pss_cons (ps_set (i := 12) sc_law_bent_claims.nd rfl (by first | exact Or.inl rfl | exact Or.inr rfl) (pe_op o_mod (pe_callTy o_int1 (by rfl) L.f_int (by decide +kernel) (pa_cons (pe_op o_cat (pe_op o_cat (pv 1) pe_int) (pv 6)) pa_nil)) (pv 0)))
    (pss_cons (ps_if (pt_cmpR op_ne (pv 12) (pv 1) (nomark _)) (pss_one (ps_if (pt_not (pt_val (pe_c (c_law_ask (K := K) L) hr (by decide) (L2N.takes_of rfl rfl rfl rfl) (pa_cons (pv 0) (pa_cons (pv 7) (pa_cons (pv 12) (pa_cons (pv 2) (pa_cons (pv 3) (pa_cons (pv 4) (pa_cons (pe_cmpR op_eq (pe_ix (ix_seqK (K := K) rfl) (pv 2) pe_int (fun _ _ => rfl)) pe_int (nomark _)) pa_nil)))))))))) (pss_one (ps_ret pe_bl)) pss_nil)) pss_nil)
    (pss_cons (ps_for (passes_of rfl) rfl (pi_listK (K := K) rfl (pe_lst (pa_cons (pe_op o_sub (pv 0) pe_int) (pa_cons (pe_op o_cat (pv 0) pe_int) pa_nil)))) (pg_name (i := 13) sc_law_bent_claims.nd rfl (by first | exact Or.inl rfl | exact Or.inr rfl)) (pss_one (ps_if (pt_chain o_le o_le pe_int (pv 13) pe_int) (pss_cons (ps_set (i := 14) sc_law_bent_claims.nd rfl (by first | exact Or.inl rfl | exact Or.inr rfl) (pe_and (pe_cmpR o_lt (pv 1) (pv 13) (nomark _)) (pe_one (pe_or (pe_cmpR o_gt (pv 1) pe_int (nomark _)) (pe_one (pe_cmpR op_eq (pe_ix (ix_seqK (K := K) rfl) (pv 2) pe_int (fun _ _ => rfl)) pe_int (nomark _)))))))
    (pss_one (ps_if (pt_not (pt_val (pe_c (c_law_ask (K := K) L) hr (by decide) (L2N.takes_of rfl rfl rfl rfl) (pa_cons (pv 13) (pa_cons (pv 7) (pa_cons (pv 1) (pa_cons (pv 2) (pa_cons (pv 3) (pa_cons (pv 4) (pa_cons (pv 14) pa_nil)))))))))) (pss_one (ps_ret pe_bl)) pss_nil))) pss_nil)))
    (pss_one (ps_ret pe_bl)))))))))), ?_⟩
  rw [show L2.start (["n", "k", "part", "rest", "low", "fine", "step", "q", "i", "row", "x", "up", "other", "letters", "due"] : List Str) [x1, x2, x3, x4, x5, x6, x7] = [some x1, some x2, some x3, some x4, some x5, some x6, some x7, none, none, none, none, none, none, none, none] from rfl]
  obtain ⟨n, k, u, b, r0, r1, r2, low, fine, step, p, r, rfl, rfl, rfl, rfl, rfl, rfl, rfl, hP, u0, u1, hR, nn, k0, kn, n1, n2, l0, bl, f0, bf, t0, t1, fin⟩ := h
  obtain ⟨hp, bu, b0, bbb⟩ := id hP
  obtain ⟨hr3, c0, c1, c2⟩ := id hR
  have hR9 : L3 H r r0 r1 r2 290 := ⟨hr3, c0.up (by decide), c1.up (by decide), c2.up (by decide)⟩
  obtain ⟨i1, i2, i3⟩ := jcast k n
  have ea := sum_over (r := r0) (u := u) (j := jA k n) b0 l0
  have eb := sum_over (r := r1) (u := u) (j := jB k n) b0 l0
  have ec := sum_over (r := r2) (u := u) (j := jC k) b0 l0
  rw [i1] at ea
  rw [i2] at eb
  rw [i3] at ec
  try dsimp only [List.set]
  walk_at "zz"
  refine ⟨_, _, _, _, _, rfl, n, k, u, b, r0, r1, r2, low, p, r, 240, rfl, rfl, rfl, rfl, rfl, hP, hR, by decide, by decide, k0, by omega, n1, n2, l0, bl, fun q H1 s1 hQ => ?_⟩
  generalize r0 * b + u * jA k n * low = A0 at *
  generalize r1 * b + u * jB k n * low = B0 at *
  generalize r2 * b + u * jC k * low = C0 at *
  have W0 : 0 < low * b := Int.mul_pos l0 b0
  obtain ⟨hq, qa, qb, qc, _, qw⟩ := id hQ
  have bW : Bits 10 (low * b) := bl.mul bbb
  generalize low * b = W at *
  have bf0 : ∀ {x : Int}, Bits (240 + 10) x → Bits 380 (x * fine) := fun h => (h.mul bf).up (by decide)
  have ba0 : ∀ {x : Int}, Bits (240 + 10) x → Bits 390 (x * fine) := fun h => (bf0 h).up (by decide)
  have bWf : Bits 110 (W * fine) := bW.mul bf
  try dsimp only [List.set]
  walk_at "zz"
  refine z_foR (by decide) (by decide) (fun i σ' H' => ∃ y8 y9 y10 : Option V, σ' = [some (.int n), some (.int k), some (.ref p), some (.ref r), some (.int low), some (.int fine), some (.int step), some (.ref q), y8, y9, y10, none, none, none, none] ∧ Same H1 H') ⟨_, _, _, rfl, fun _ _ h => h⟩ ?_ ?_
  · rintro i σ' H' hi ⟨y8, y9, y10, rfl, sh⟩
    match i, hi with
    | 0, _ =>
      try dsimp only [List.set]
      walk_at "zz"
      refine z_lcVP (fun _ x j => x = .int (cf [A0, B0, C0, W] j * fine)) (fun _ _ _ _ _ h => h) (sh _ _ hq) (Nat.le_of_ble_eq_true rfl) (fun j x H2 N2 hx s2 cc => ⟨rfl, ?_⟩) (fun D HD hD sD hlD => ?_)
      · obtain rfl := at44 hx
        try dsimp only [List.set]
        walk_at "zz"
        refine z_repU0 (cf4b qa qb qc (bW.up (by decide)) j) bf (by decide) ?_
        try dsimp only [List.set]
        walk_at "zz"
        exact cc _ _ (fun _ _ h => h) rfl
      obtain ⟨xs, e1, e2, e3⟩ := hlD
      obtain ⟨y0, y1, y2, y3, rfl⟩ := four_ex e2
      obtain rfl := e3 0 y0 rfl
      obtain rfl := e3 1 y1 rfl
      obtain rfl := e3 2 y2 rfl
      obtain rfl := e3 3 y3 rfl
      have e1 : HD D = some (.lst [.int (A0 * fine), .int (B0 * fine), .int (C0 * fine), .int (W * fine)]) := e1
      try dsimp only [List.set]
      walk_at "zz"
      refine z_mod (by decide) ?_
      try dsimp only [List.set]
      walk_at "zz"
      refine z_setL (j := 0) e1 rfl (Nat.le_of_ble_eq_true rfl) ?_
      have e4 : (upd HD D (.lst ([.int (A0 * fine), .int (B0 * fine), .int (C0 * fine), .int (W * fine)].set 0 (V.int (A0 * fine + 1 - 2 * (step % 2)))))) D = some (.lst [.int (A0 * fine + 1 - 2 * (step % 2)), .int (B0 * fine), .int (C0 * fine), .int (W * fine)]) := upd_same
      have sP : Same H' (upd HD D (.lst ([.int (A0 * fine), .int (B0 * fine), .int (C0 * fine), .int (W * fine)].set 0 (V.int (A0 * fine + 1 - 2 * (step % 2)))))) := Same.put sD hD
      generalize (upd HD D (.lst ([.int (A0 * fine), .int (B0 * fine), .int (C0 * fine), .int (W * fine)].set 0 (V.int (A0 * fine + 1 - 2 * (step % 2)))))) = H3 at *
      have bx : Bits 390 (A0 * fine + 1 - 2 * (step % 2)) := by
        have := ba0 (x := A0) (by assumption)
        have e : A0 * fine + 1 - 2 * (step % 2) = A0 * fine + (1 - 2 * (step % 2)) := Int.add_sub_assoc _ _ _
        rw [e]
        exact (Bits.add (a := 380) (bf0 (by assumption)) ((bi (x := 1 - 2 * (step % 2)) (by omega) (by omega)).up (by decide))).up (by decide)
      try dsimp only [List.set]
      walk_at "zz"
      refine u_ask ⟨e4, bx, (ba0 qb), (ba0 qc), Int.mul_pos W0 f0, bWf⟩ (hP.mono ((s1.trans sh).trans sP)) (hR9.mono ((s1.trans sh).trans sP)) k0 (by omega) n1 n2 l0 bl (due_f fun z => ?_) (fun H4 s4 => ?_)
      · have z1 := z.2.2.2.1
        rw [← ea, show A0 * fine + 1 - 2 * (step % 2) = A0 * fine + (1 - 2 * (step % 2)) from Int.add_sub_assoc _ _ _] at z1
        exact bent_ne W0 f0 (by omega) z1
      try dsimp only [List.set]
      walk_at "zz"
      exact ⟨_, _, _, rfl, (sh.trans sP).trans s4⟩
    | 1, _ =>
      try dsimp only [List.set]
      walk_at "zz"
      refine z_lcVP (fun _ x j => x = .int (cf [A0, B0, C0, W] j * fine)) (fun _ _ _ _ _ h => h) (sh _ _ hq) (Nat.le_of_ble_eq_true rfl) (fun j x H2 N2 hx s2 cc => ⟨rfl, ?_⟩) (fun D HD hD sD hlD => ?_)
      · obtain rfl := at44 hx
        try dsimp only [List.set]
        walk_at "zz"
        refine z_repU0 (cf4b qa qb qc (bW.up (by decide)) j) bf (by decide) ?_
        try dsimp only [List.set]
        walk_at "zz"
        exact cc _ _ (fun _ _ h => h) rfl
      obtain ⟨xs, e1, e2, e3⟩ := hlD
      obtain ⟨y0, y1, y2, y3, rfl⟩ := four_ex e2
      obtain rfl := e3 0 y0 rfl
      obtain rfl := e3 1 y1 rfl
      obtain rfl := e3 2 y2 rfl
      obtain rfl := e3 3 y3 rfl
      have e1 : HD D = some (.lst [.int (A0 * fine), .int (B0 * fine), .int (C0 * fine), .int (W * fine)]) := e1
      try dsimp only [List.set]
      walk_at "zz"
      refine z_mod (by decide) ?_
      try dsimp only [List.set]
      walk_at "zz"
      refine z_setL (j := 1) e1 rfl (Nat.le_of_ble_eq_true rfl) ?_
      have e4 : (upd HD D (.lst ([.int (A0 * fine), .int (B0 * fine), .int (C0 * fine), .int (W * fine)].set 1 (V.int (B0 * fine + 1 - 2 * (step % 2)))))) D = some (.lst [.int (A0 * fine), .int (B0 * fine + 1 - 2 * (step % 2)), .int (C0 * fine), .int (W * fine)]) := upd_same
      have sP : Same H' (upd HD D (.lst ([.int (A0 * fine), .int (B0 * fine), .int (C0 * fine), .int (W * fine)].set 1 (V.int (B0 * fine + 1 - 2 * (step % 2)))))) := Same.put sD hD
      generalize (upd HD D (.lst ([.int (A0 * fine), .int (B0 * fine), .int (C0 * fine), .int (W * fine)].set 1 (V.int (B0 * fine + 1 - 2 * (step % 2)))))) = H3 at *
      have bx : Bits 390 (B0 * fine + 1 - 2 * (step % 2)) := by
        have := ba0 (x := B0) (by assumption)
        have e : B0 * fine + 1 - 2 * (step % 2) = B0 * fine + (1 - 2 * (step % 2)) := Int.add_sub_assoc _ _ _
        rw [e]
        exact (Bits.add (a := 380) (bf0 (by assumption)) ((bi (x := 1 - 2 * (step % 2)) (by omega) (by omega)).up (by decide))).up (by decide)
      try dsimp only [List.set]
      walk_at "zz"
      refine u_ask ⟨e4, (ba0 qa), bx, (ba0 qc), Int.mul_pos W0 f0, bWf⟩ (hP.mono ((s1.trans sh).trans sP)) (hR9.mono ((s1.trans sh).trans sP)) k0 (by omega) n1 n2 l0 bl (due_f fun z => ?_) (fun H4 s4 => ?_)
      · have z1 := z.2.2.2.2.1
        rw [← eb, show B0 * fine + 1 - 2 * (step % 2) = B0 * fine + (1 - 2 * (step % 2)) from Int.add_sub_assoc _ _ _] at z1
        exact bent_ne W0 f0 (by omega) z1
      try dsimp only [List.set]
      walk_at "zz"
      exact ⟨_, _, _, rfl, (sh.trans sP).trans s4⟩
    | 2, _ =>
      try dsimp only [List.set]
      walk_at "zz"
      refine z_lcVP (fun _ x j => x = .int (cf [A0, B0, C0, W] j * fine)) (fun _ _ _ _ _ h => h) (sh _ _ hq) (Nat.le_of_ble_eq_true rfl) (fun j x H2 N2 hx s2 cc => ⟨rfl, ?_⟩) (fun D HD hD sD hlD => ?_)
      · obtain rfl := at44 hx
        try dsimp only [List.set]
        walk_at "zz"
        refine z_repU0 (cf4b qa qb qc (bW.up (by decide)) j) bf (by decide) ?_
        try dsimp only [List.set]
        walk_at "zz"
        exact cc _ _ (fun _ _ h => h) rfl
      obtain ⟨xs, e1, e2, e3⟩ := hlD
      obtain ⟨y0, y1, y2, y3, rfl⟩ := four_ex e2
      obtain rfl := e3 0 y0 rfl
      obtain rfl := e3 1 y1 rfl
      obtain rfl := e3 2 y2 rfl
      obtain rfl := e3 3 y3 rfl
      have e1 : HD D = some (.lst [.int (A0 * fine), .int (B0 * fine), .int (C0 * fine), .int (W * fine)]) := e1
      try dsimp only [List.set]
      walk_at "zz"
      refine z_mod (by decide) ?_
      try dsimp only [List.set]
      walk_at "zz"
      refine z_setL (j := 2) e1 rfl (Nat.le_of_ble_eq_true rfl) ?_
      have e4 : (upd HD D (.lst ([.int (A0 * fine), .int (B0 * fine), .int (C0 * fine), .int (W * fine)].set 2 (V.int (C0 * fine + 1 - 2 * (step % 2)))))) D = some (.lst [.int (A0 * fine), .int (B0 * fine), .int (C0 * fine + 1 - 2 * (step % 2)), .int (W * fine)]) := upd_same
      have sP : Same H' (upd HD D (.lst ([.int (A0 * fine), .int (B0 * fine), .int (C0 * fine), .int (W * fine)].set 2 (V.int (C0 * fine + 1 - 2 * (step % 2)))))) := Same.put sD hD
      generalize (upd HD D (.lst ([.int (A0 * fine), .int (B0 * fine), .int (C0 * fine), .int (W * fine)].set 2 (V.int (C0 * fine + 1 - 2 * (step % 2)))))) = H3 at *
      have bx : Bits 390 (C0 * fine + 1 - 2 * (step % 2)) := by
        have := ba0 (x := C0) (by assumption)
        have e : C0 * fine + 1 - 2 * (step % 2) = C0 * fine + (1 - 2 * (step % 2)) := Int.add_sub_assoc _ _ _
        rw [e]
        exact (Bits.add (a := 380) (bf0 (by assumption)) ((bi (x := 1 - 2 * (step % 2)) (by omega) (by omega)).up (by decide))).up (by decide)
      try dsimp only [List.set]
      walk_at "zz"
      refine u_ask ⟨e4, (ba0 qa), (ba0 qb), bx, Int.mul_pos W0 f0, bWf⟩ (hP.mono ((s1.trans sh).trans sP)) (hR9.mono ((s1.trans sh).trans sP)) k0 (by omega) n1 n2 l0 bl (due_f fun z => ?_) (fun H4 s4 => ?_)
      · have z1 := z.2.2.2.2.2
        rw [← ec, show C0 * fine + 1 - 2 * (step % 2) = C0 * fine + (1 - 2 * (step % 2)) from Int.add_sub_assoc _ _ _] at z1
        exact bent_ne W0 f0 (by omega) z1
      try dsimp only [List.set]
      walk_at "zz"
      exact ⟨_, _, _, rfl, (sh.trans sP).trans s4⟩
  rintro σ' HB ⟨y8, y9, y10, rfl, sB⟩
  try dsimp only [List.set]
  walk_at "zz"
  rename_i x11 H5 hx11 s5 e5
  have s15 := s1.trans (sB.trans s5)
  have hQ5 : L4 H5 q A0 B0 C0 W 390 := ⟨(sB.trans s5) _ _ hq, qa.up (by decide), qb.up (by decide), qc.up (by decide), W0, qw⟩
  refine u_ask (u := u + 1) hQ5 ⟨e5, bi (by omega) (by omega), b0, bbb⟩ (hR9.mono s15) k0 (by omega) n1 n2 l0 bl (due_f (shw_amount b0 ec)) (fun H6 s6 => ?_)
  have hr63 := (s15.trans s6) _ _ hr3
  try dsimp only [List.set]
  walk_at "zz"
  rename_i x12 H7 hx12 s7 e7
  have s17 := (s15.trans s6).trans s7
  have hQ7 := hQ5.mono (s6.trans s7)
  refine u_ask hQ7 (hP.mono s17) ⟨e7, (Bits.add (a := 240) c0 ((bi (x := 1) (by decide) (by decide)).up (by decide))).up (by decide), c1.up (by decide), c2.up (by decide)⟩ k0 (by omega) n1 n2 l0 bl (due_f (shw_up l0 ea)) (fun H8 s8 => ?_)
  have s18 := s17.trans s8
  have hQ8 := hQ7.mono s8
  have hp8 := s18 _ _ hp
  try dsimp only [List.set]
  walk_at "zz"
  refine z_mod (by omega) ?_
  have o0 := Int.emod_nonneg (k + 1 + step) (show n ≠ 0 by omega)
  have o1 := Int.emod_lt_of_pos (k + 1 + step) (show 0 < n by omega)
  generalize (k + 1 + step) % n = ot at *
  try dsimp only [List.set]
  walk_at "zz"
  refine z_d2 (fun c => ?_) (fun c => ?_)
  · try dsimp only [List.set]
    walk_at "zz"
    rename_i x13 HD hx13 sD eD
    have s1D := s18.trans ((Same.refl H8).trans sD)
    have hQD := hQ8.mono ((Same.refl H8).trans sD)
    refine z_foV (xs := [V.int (n - 1), V.int (n + 1)]) eD (fun i σ' H' => ∃ y13 y14 : Option V, σ' = [some (.int n), some (.int k), some (.ref p), some (.ref r), some (.int low), some (.int fine), some (.int step), some (.ref q), y8, y9, y10, some (.ref x12), some (.int ot), y13, y14] ∧ Same HD H') ⟨_, _, rfl, fun _ _ h => h⟩ (fun i σ' H' z => by obtain ⟨_, _, _, s⟩ := z; exact s _ _ eD) ?_ ?_
    · rintro i xx σ' H' ex ⟨y13, y14, rfl, sh⟩
      obtain ⟨m, rfl, m1, m2⟩ : ∃ m : Int, xx = .int m ∧ m ≠ n ∧ 1 ≤ m := by
        rcases i with _ | _ | i
        · cases ex
          exact ⟨n - 1, rfl, by omega, by omega⟩
        · cases ex
          exact ⟨n + 1, rfl, by omega, by omega⟩
        · cases ex
      have hpE := (s1D.trans sh) _ _ hp
      try dsimp only [List.set]
      walk_at "zz"
      have LL := shw_letters b0 k0 m1 u0 nn ea eb ec
      refine z_d2 (fun c1 => ?_) (fun c1 => ?_)
      · try dsimp only [List.set]
        walk_at "zz"
        refine z_d2 (fun c2 => ?_) (fun c2 => ?_)
        · try dsimp only [List.set]
          walk_at "zz"
          refine z_d2 (fun c3 => ?_) (fun c3 => ?_)
          · try dsimp only [List.set]
            walk_at "zz"
            refine z_d2 (fun c4 => ?_) (fun c4 => ?_)
            · try dsimp only [List.set]
              walk_at "zz"
              refine u_ask (hQD.mono sh) (hP.mono (s1D.trans sh)) (hR9.mono (s1D.trans sh)) k0 (by omega) c1 c2 l0 bl ⟨fun _ => LL.mpr ⟨c3, .inl (by omega)⟩, fun _ => rfl⟩ (fun HE sE => ?_)
              try dsimp only [List.set]
              walk_at "zz"
              exact ⟨_, _, rfl, sh.trans sE⟩
            · try dsimp only [List.set]
              walk_at "zz"
              refine u_ask (hQD.mono sh) (hP.mono (s1D.trans sh)) (hR9.mono (s1D.trans sh)) k0 (by omega) c1 c2 l0 bl (by rw [decide_eq_true_eq]; exact ⟨fun z => LL.mpr ⟨c3, .inr z⟩, fun z => (LL.mp z).2.resolve_left (by omega)⟩) (fun HE sE => ?_)
              try dsimp only [List.set]
              walk_at "zz"
              exact ⟨_, _, rfl, sh.trans sE⟩
          · try dsimp only [List.set]
            walk_at "zz"
            refine u_ask (hQD.mono sh) (hP.mono (s1D.trans sh)) (hR9.mono (s1D.trans sh)) k0 (by omega) c1 c2 l0 bl (due_f fun z => c3 (LL.mp z).1) (fun HE sE => ?_)
            try dsimp only [List.set]
            walk_at "zz"
            exact ⟨_, _, rfl, sh.trans sE⟩
        · try dsimp only [List.set]
          walk_at "zz"
          exact ⟨_, _, rfl, sh⟩
      · try dsimp only [List.set]
        walk_at "zz"
        exact ⟨_, _, rfl, sh⟩
    rintro σ' HF ⟨y13, y14, rfl, sF⟩
    try dsimp only [List.set]
    walk_at "zz"
    exact fin _ (s1D.trans sF)
  · try dsimp only [List.set]
    walk_at "zz"
    refine u_ask hQ8 (hP.mono s18) (hR9.mono s18) o0 (by omega) n1 n2 l0 bl (by rw [decide_eq_true_eq]; exact (shw_other b0 c o1 u0 nn ea eb ec).symm) (fun HC sC => ?_)
    try dsimp only [List.set]
    walk_at "zz"
    rename_i x13 HD hx13 sD eD
    have s1D := s18.trans (sC.trans sD)
    have hQD := hQ8.mono (sC.trans sD)
    refine z_foV (xs := [V.int (n - 1), V.int (n + 1)]) eD (fun i σ' H' => ∃ y13 y14 : Option V, σ' = [some (.int n), some (.int k), some (.ref p), some (.ref r), some (.int low), some (.int fine), some (.int step), some (.ref q), y8, y9, y10, some (.ref x12), some (.int ot), y13, y14] ∧ Same HD H') ⟨_, _, rfl, fun _ _ h => h⟩ (fun i σ' H' z => by obtain ⟨_, _, _, s⟩ := z; exact s _ _ eD) ?_ ?_
    · rintro i xx σ' H' ex ⟨y13, y14, rfl, sh⟩
      obtain ⟨m, rfl, m1, m2⟩ : ∃ m : Int, xx = .int m ∧ m ≠ n ∧ 1 ≤ m := by
        rcases i with _ | _ | i
        · cases ex
          exact ⟨n - 1, rfl, by omega, by omega⟩
        · cases ex
          exact ⟨n + 1, rfl, by omega, by omega⟩
        · cases ex
      have hpE := (s1D.trans sh) _ _ hp
      try dsimp only [List.set]
      walk_at "zz"
      have LL := shw_letters b0 k0 m1 u0 nn ea eb ec
      refine z_d2 (fun c1 => ?_) (fun c1 => ?_)
      · try dsimp only [List.set]
        walk_at "zz"
        refine z_d2 (fun c2 => ?_) (fun c2 => ?_)
        · try dsimp only [List.set]
          walk_at "zz"
          refine z_d2 (fun c3 => ?_) (fun c3 => ?_)
          · try dsimp only [List.set]
            walk_at "zz"
            refine z_d2 (fun c4 => ?_) (fun c4 => ?_)
            · try dsimp only [List.set]
              walk_at "zz"
              refine u_ask (hQD.mono sh) (hP.mono (s1D.trans sh)) (hR9.mono (s1D.trans sh)) k0 (by omega) c1 c2 l0 bl ⟨fun _ => LL.mpr ⟨c3, .inl (by omega)⟩, fun _ => rfl⟩ (fun HE sE => ?_)
              try dsimp only [List.set]
              walk_at "zz"
              exact ⟨_, _, rfl, sh.trans sE⟩
            · try dsimp only [List.set]
              walk_at "zz"
              refine u_ask (hQD.mono sh) (hP.mono (s1D.trans sh)) (hR9.mono (s1D.trans sh)) k0 (by omega) c1 c2 l0 bl (by rw [decide_eq_true_eq]; exact ⟨fun z => LL.mpr ⟨c3, .inr z⟩, fun z => (LL.mp z).2.resolve_left (by omega)⟩) (fun HE sE => ?_)
              try dsimp only [List.set]
              walk_at "zz"
              exact ⟨_, _, rfl, sh.trans sE⟩
          · try dsimp only [List.set]
            walk_at "zz"
            refine u_ask (hQD.mono sh) (hP.mono (s1D.trans sh)) (hR9.mono (s1D.trans sh)) k0 (by omega) c1 c2 l0 bl (due_f fun z => c3 (LL.mp z).1) (fun HE sE => ?_)
            try dsimp only [List.set]
            walk_at "zz"
            exact ⟨_, _, rfl, sh.trans sE⟩
        · try dsimp only [List.set]
          walk_at "zz"
          exact ⟨_, _, rfl, sh⟩
      · try dsimp only [List.set]
        walk_at "zz"
        exact ⟨_, _, rfl, sh⟩
    rintro σ' HF ⟨y13, y14, rfl, sF⟩
    try dsimp only [List.set]
    walk_at "zz"
    exact fin _ (s1D.trans sF)
theorem c_law_bent_claims (L : Lw K mg) : Cal P w K mg base 13 "_law_bent_claims" (sp7 (fs_bcl K)) [] := by
  obtain ⟨fd, F⟩ := L.d_law_bent_claims
  exact ⟨⟨_, fd, ["n", "k", "part", "rest", "low", "fine", "step"], [], ok_law_bent_claims L F, L.g_law_bent_claims, F.kp, F.bindsN (fun _ _ _ _ _ _ us hl => match us, hl with | [_, _, _, _, _, _, _], _ => rfl), .nil⟩⟩
end
end T
set_option maxHeartbeats 4000000
namespace T
open PySem PySem.Spec PyProof.Rows L2 Z
open S31 (cf)
open S30
def fs_pc (K : Frag) : F3 := fun a b c H Q _ => ∃ (x dx l h : Addr) (H0 : Hp) (v w : Rat), a = .ref x ∧ b = .ref l ∧ c = .ref h ∧ H = upd (upd H0 dx (.own x)) x (.ins (He.ga K "Piece") dx []) ∧ H0 x = none ∧ H0 dx = none ∧ dx ≠ x ∧ IsV K H0 l v 20 ∧ IsV K H0 h w 20 ∧ v ≤ w ∧ ∀ H' fs, Same H0 H' → H' x = some (.ins (He.ga K "Piece") dx fs) → Q .non H'
def fs_lic (K : Frag) : F3 := fun a b c H Q _ => ∃ (x dx p : Addr) (H0 : Hp) (ls : List Int) (o : Int), a = .ref x ∧ b = .ref p ∧ H = upd (upd H0 dx (.own x)) x (.ins (He.ga K "LineClaim") dx []) ∧ H0 x = none ∧ H0 dx = none ∧ dx ≠ x ∧ IsQ K H0 p ls o ∧ ls.length ≤ 12 ∧ ∀ H' fs, Same H0 H' → H' x = some (.ins (He.ga K "LineClaim") dx fs) → Q .non H'
def fs_foc (K : Frag) : F3 := fun a b c H Q _ => ∃ (x dx q : Addr) (H0 : Hp) (n : Int) (xs : List V), a = .ref x ∧ b = .int n ∧ c = .ref q ∧ H = upd (upd H0 dx (.own x)) x (.ins (He.ga K "FourClaim") dx []) ∧ H0 x = none ∧ H0 dx = none ∧ dx ≠ x ∧ H0 q = some (.lst xs) ∧ xs.length = 5 ∧ 2 ≤ n ∧ n ≤ 24 ∧ ∀ H' fs, Same H0 H' → H' x = some (.ins (He.ga K "FourClaim") dx fs) → Q .non H'
def fs_cut (K : Frag) : F4 := fun a b c d H Q _ => ∃ (x dx q : Addr) (H0 : Hp), a = .ref x ∧ d = .ref q ∧ H = upd (upd H0 dx (.own x)) x (.ins (He.ga K "CutPaper") dx []) ∧ H0 x = none ∧ H0 dx = none ∧ dx ≠ x ∧ H0 q = some (.lst []) ∧ ∀ H' fs, Same H0 H' → H' x = some (.ins (He.ga K "CutPaper") dx fs) → fs.lookup ("shows" : Str) = none → Q .non H'
def zFoZ (K : Frag) (g : TG) (tb : TS) (D : Ends) (σ : L2.St) (vs : List V) (H1 : Hp) : Prop := ∃ (k1 k2 : Bool) (a b : Addr) (xs ys : List V), vs = [.ref a, .ref b] ∧ SqK K k1 H1 a xs ∧ SqK K k2 H1 b ys ∧ ∃ W : Nat → Nat → L2.St → Hp → Prop, (∃ m, W 0 m σ H1) ∧ ∀ i m σ H, W i m σ H →
  ((ItZ K k1 k2 a b xs ys).stop i H ∧ D.nx σ H) ∨ ((ItZ K k1 k2 a b xs ys).go i H ∧ ∃ N : L2.St → Hp → Prop, (∀ σ' H', N σ' H' → ∃ m', m' < m ∧ W (i + 1) m' σ' H') ∧ ∀ x H', (ItZ K k1 k2 a b xs ys).yld i H x H' → g x σ H' fun σ2 H2 => tb { D with nx := N, ct := N, bk := D.nx } σ2 H2)
theorem z_foZS {K : Frag} {ta : TA} {g : TG} {tb : TS} {D : Ends} {σ : L2.St} {H : Hp} (q : ta σ H fun vs H1 => zFoZ K g tb D σ vs H1) : tFor (iZipM K ta) g tb D σ H := q
theorem z_foZ0 {K : Frag} {g : TG} {tb : TS} {D : Ends} {σ : L2.St} {H1 : Hp} {a b : Addr} {ys : List V} (h1 : H1 a = some (.lst [])) (h2 : H1 b = some (.lst ys)) (q : D.nx σ H1) : zFoZ K g tb D σ [.ref a, .ref b] H1 :=
  ⟨false, false, a, b, [], ys, rfl, SqL.of h1, SqL.of h2, fun i _ σ' H' => i = 0 ∧ σ' = σ ∧ H' = H1, ⟨0, rfl, rfl, rfl⟩, fun i m σ' H' ⟨e1, e2, e3⟩ => by
    subst e1 e2 e3
    exact .inl ⟨⟨SqL.of h1, SqL.of h2, by simp⟩, q⟩⟩
def fs_lrs (K : Frag) : F5 := fun x1 x2 x3 x4 x5 H Q _ => ∃ (n k u b r0 r1 r2 low : Int) (p r : Addr), x1 = .int n ∧ x2 = .int k ∧ x3 = .ref p ∧ x4 = .ref r ∧ x5 = .int low ∧
  PU H p u b ∧ 0 ≤ u ∧ u ≤ 1000 ∧ L3 H r r0 r1 r2 240 ∧ (∀ t, 0 ≤ S66.rv ((r0 : Rat) / low) ((r1 : Rat) / low) ((r2 : Rat) / low) t) ∧ 0 ≤ k ∧ k < n ∧ 2 ≤ n ∧ n ≤ 200 ∧ 0 < low ∧ Bits 5 low ∧ ∀ H', Same H H' → Q (.bl true) H'
def fs_spraise (K : Frag) : F4 := fun a b c d H Q E => ∃ (x dx : Addr) (H0 : Hp) (n : Int), a = .ref x ∧ b = .int n ∧ H = upd (upd H0 dx (.own x)) x (.ins (He.ga K "SixPaper") dx []) ∧ H0 x = none ∧ H0 dx = none ∧ dx ≠ x ∧ ¬ (0 ≤ n ∧ n ≤ 200) ∧ ∀ e H', Same H0 H' → H' e = some (.xd [("value", .int n)]) → E (.ref (He.ga K "OutOfBounds")) (some e) H'
def fs_lref : F1 := fun x H Q _ => ∃ n : Int, x = .int n ∧ ¬ (0 ≤ n ∧ n ≤ 200) ∧ ∀ H', Same H H' → Q (.bl true) H'
theorem u_say {K : Frag} {H : Hp} {Q : VK} {E : XK} {cl s : Addr} {due : Bool} (h : Says K H cl s due) (fin : ∀ H', Same H H' → Q (.bl true) H') : sp3 (fs_says K) [.ref cl, .ref s, .bl due] H Q E := ⟨_, _, _, rfl, cl, s, due, rfl, rfl, rfl, h, fin⟩
local macro_rules | `(tactic| walk_at "up") => `(tactic| first
  | assumption
  | (refine' IsR.mono (by assumption) ?zup; case zup => walk_at "up")
  | (refine' IsE.mono (by assumption) ?zup; case zup => walk_at "up")
  | (refine' Same.at (by assumption) ?zup; case zup => walk_at "up")
  | (refine' SqL.of ?zup; case zup => walk_at "up")
  | (refine' L2.Same.seq (by assumption) ?zup; case zup => walk_at "up"))
local macro_rules | `(tactic| walk_at "z") => `(tactic| first
  | ((with_reducible refine' z_var ?zvh ?_); (case zvh => exact rfl))
  | with_reducible refine z_c ?_
  | with_reducible refine z_cons ?_
  | with_reducible refine z_nil ?_
  | with_reducible refine z_op ?_
  | with_reducible refine z_nx ?_
  | with_reducible refine z_seq ?_
  | with_reducible refine z_asg ?_
  | with_reducible refine z_asgG ?_
  | with_reducible refine z_call ?_
  | with_reducible refine z_sq0 ?_
  | with_reducible refine z_sq1 ?_
  | with_reducible refine z_ifS ?_
  | with_reducible refine z_test ?_
  | with_reducible refine z_tb ?_
  | with_reducible refine z_bl ?_
  | with_reducible refine z_blI ?_
  | with_reducible refine z_ret ?_
  | with_reducible refine z_rt ?_
  | with_reducible refine z_T ?_
  | with_reducible refine z_F ?_
  | with_reducible refine z_add ?_
  | with_reducible refine z_sub ?_
  | with_reducible refine z_neg ?_
  | with_reducible refine z_un ?_
  | with_reducible refine z_eqI ?_
  | with_reducible refine z_neI ?_
  | with_reducible refine z_lt ?_
  | with_reducible refine z_le ?_
  | with_reducible refine z_gt ?_
  | with_reducible refine z_ge ?_
  | with_reducible refine z_not ?_
  | with_reducible refine z_and ?_
  | with_reducible refine z_or ?_
  | with_reducible refine z_andV ?_
  | with_reducible refine z_orV ?_
  | with_reducible refine z_notV ?_
  | with_reducible refine z_if ?_
  | with_reducible refine z_cb ?_
  | with_reducible refine z_int1 ?_
  | with_reducible refine z_intb ?_
  | with_reducible refine z_abs ?_
  | with_reducible refine z_gcd ?_
  | with_reducible refine z_isi_ii ?_
  | with_reducible refine z_isi_ib ?_
  | with_reducible refine z_next ?_
  | with_reducible refine z_drop ?_
  | with_reducible refine z_par ?_
  | with_reducible refine z_par2 ?_
  | with_reducible refine z_tupN ?_
  | with_reducible refine z_lstN ?_
  | ((with_reducible refine' z_nt ?zl1 ?_); (case zl1 => exact Nat.le_of_ble_eq_true rfl); intro p H' hp hs he)
  | ((with_reducible refine' z_gtup ?zl1 ?zl2 ?_); (case zl1 => walk_at "up"); (case zl2 => exact rfl))
  | with_reducible refine z_bk ?_
  | with_reducible refine z_ct ?_
  | with_reducible refine z_break ?_
  | with_reducible refine z_cont ?_
  | with_reducible refine z_retN ?_
  | with_reducible refine z_nn ?_
  | with_reducible refine z_mk ?_
  | with_reducible refine z_gn ?_
  | with_reducible refine z_gcons ?_
  | with_reducible refine z_gnil ?_
  | with_reducible refine z_mt ?_
  | with_reducible refine z_mko ?_
  | with_reducible refine z_for2 ?_
  | with_reducible refine z_ownI ?_
  | ((with_reducible refine' z_lenL ?zl1 ?_); (case zl1 => walk_at "up"))
  | ((with_reducible refine' z_ixT ?zl1 ?zl2 ?_); (case zl1 => walk_at "up"); (case zl2 => exact rfl))
  | ((with_reducible refine' z_mulL ?zl1 ?zl2 ?_); (case zl1 => omega); (case zl2 => omega))
  | ((with_reducible refine' z_mulR ?zl1 ?zl2 ?_); (case zl1 => omega); (case zl2 => omega))
  | ((with_reducible refine' z_divS ?zl1 ?zl2 ?_); (case zl1 => omega); (case zl2 => omega))
  | ((with_reducible refine' z_mulW ?zl1 ?zl2 ?zl3 ?zl4 ?_); (case zl1 => omega); (case zl2 => omega); (case zl3 => omega); (case zl4 => omega))
  | ((with_reducible refine' z_divW ?zl1 ?zl2 ?_); (case zl1 => omega); (case zl2 => omega)))
local macro_rules | `(tactic| walk_at "zz") => `(tactic| repeat (walk_at "z"))
local macro_rules | `(tactic| walk_at "z") => `(tactic| with_reducible refine z_lstN ?_)
local macro_rules | `(tactic| walk_at "z") => `(tactic| with_reducible refine z_p6 ?_)
local macro_rules | `(tactic| walk_at "z") => `(tactic| with_reducible refine z_p12 ?_)
local macro_rules | `(tactic| walk_at "z") => `(tactic| with_reducible refine z_p13 ?_)
local macro_rules | `(tactic| walk_at "z") => `(tactic| with_reducible refine z_calln ?_)
local macro_rules | `(tactic| walk_at "z") => `(tactic| with_reducible refine z_xfS ?_)
local macro_rules | `(tactic| walk_at "z") => `(tactic| with_reducible refine z_lcS ?_)
local macro_rules | `(tactic| walk_at "z") => `(tactic| with_reducible refine z_lcRS ?_)
local macro_rules | `(tactic| walk_at "z") => `(tactic| with_reducible refine z_lcZS ?_)
local macro_rules | `(tactic| walk_at "z") => `(tactic| with_reducible refine z_foS ?_)
local macro_rules | `(tactic| walk_at "z") => `(tactic| with_reducible refine z_for1 ?_)
local macro_rules | `(tactic| walk_at "z") => `(tactic| with_reducible refine z_tsl ?_)
local macro_rules | `(tactic| walk_at "z") => `(tactic| with_reducible refine z_np ?_)
local macro_rules | `(tactic| walk_at "z") => `(tactic| with_reducible refine z_pt ?_)
local macro_rules | `(tactic| walk_at "z") => `(tactic| with_reducible refine z_pti ?_)
local macro_rules | `(tactic| walk_at "z") => `(tactic| with_reducible refine z_catI ?_)
local macro_rules | `(tactic| walk_at "z") => `(tactic| with_reducible refine z_isNI ?_)
local macro_rules | `(tactic| walk_at "z") => `(tactic| with_reducible refine z_isNN ?_)
local macro_rules | `(tactic| walk_at "z") => `(tactic| with_reducible refine z_notNI ?_)
local macro_rules | `(tactic| walk_at "z") => `(tactic| with_reducible refine z_notNN ?_)
local macro_rules | `(tactic| walk_at "z") => `(tactic| with_reducible refine z_gsub ?_)
local macro_rules | `(tactic| walk_at "z") => `(tactic| with_reducible refine z_isNb ?_)
local macro_rules | `(tactic| walk_at "z") => `(tactic| with_reducible refine z_notNb ?_)
local macro_rules | `(tactic| walk_at "z") => `(tactic| ((with_reducible refine' z_nlR ?zl1 ?_); (case zl1 => exact Nat.le_of_ble_eq_true rfl); intro p H' hp hs he))
local macro_rules | `(tactic| walk_at "z") => `(tactic| ((with_reducible refine' z_repR ?zl1 ?zl2 ?_); (case zl1 => omega); (case zl2 => omega)))
local macro_rules | `(tactic| walk_at "z") => `(tactic| ((with_reducible refine' z_repL ?zl1 ?zl2 ?_); (case zl1 => omega); (case zl2 => omega)))
local macro_rules | `(tactic| walk_at "z") => `(tactic| ((with_reducible refine' z_lenLst ?zl1 ?_); (case zl1 => walk_at "up")))
local macro_rules | `(tactic| walk_at "z") => `(tactic| ((with_reducible refine' z_cat ?zl1 ?zl2 ?zl3 ?_); (case zl1 => walk_at "up"); (case zl2 => walk_at "up"); (case zl3 => (simp only [List.length_map, List.length_cons, List.length_nil, List.length_append, List.length_replicate]; omega)); intro p H' hp hs he))
local macro_rules | `(tactic| walk_at "z") => `(tactic| with_reducible refine z_sfl ?_)
local macro_rules | `(tactic| walk_at "z") => `(tactic| with_reducible refine z_lcES ?_)
local macro_rules | `(tactic| walk_at "z") => `(tactic| with_reducible refine z_lcMS ?_)
local macro_rules | `(tactic| walk_at "z") => `(tactic| with_reducible refine z_foES ?_)
local macro_rules | `(tactic| walk_at "z") => `(tactic| with_reducible refine z_fo3S ?_)
local macro_rules | `(tactic| walk_at "z") => `(tactic| with_reducible refine z_sta ?_)
local macro_rules | `(tactic| walk_at "z") => `(tactic| with_reducible refine z_sta1 ?_)
local macro_rules | `(tactic| walk_at "z") => `(tactic| with_reducible refine z_lcTS ?_)
local macro_rules | `(tactic| walk_at "z") => `(tactic| with_reducible refine z_foTS ?_)
local macro_rules | `(tactic| walk_at "z") => `(tactic| with_reducible refine z_revTS ?_)
local macro_rules | `(tactic| walk_at "z") => `(tactic| with_reducible refine z_max2 ?_)
local macro_rules | `(tactic| walk_at "z") => `(tactic| with_reducible refine z_fldS ?_)
local macro_rules | `(tactic| walk_at "z") => `(tactic| ((with_reducible refine' z_fdt ?zc1 ?zc2 ?zl2 ?_); (case zc1 => exact Lw.cl_Ratio (by assumption)); (case zc2 => exact Lw.na_Ratio_top (by assumption)); (case zl2 => walk_at "up")))
local macro_rules | `(tactic| walk_at "z") => `(tactic| ((with_reducible refine' z_fdb ?zc1 ?zc2 ?zl2 ?_); (case zc1 => exact Lw.cl_Ratio (by assumption)); (case zc2 => exact Lw.na_Ratio_bottom (by assumption)); (case zl2 => walk_at "up")))
local macro_rules | `(tactic| walk_at "z") => `(tactic| ((with_reducible refine' z_fldt ?zc1 ?zc2 ?zl1 ?zl2 ?_); (case zc1 => exact Lw.cl_Ratio (by assumption)); (case zc2 => exact Lw.na_Ratio_top (by assumption)); (case zl1 => exact rfl); (case zl2 => walk_at "up")))
local macro_rules | `(tactic| walk_at "z") => `(tactic| ((with_reducible refine' z_fldb ?zc1 ?zc2 ?zl1 ?zl2 ?_); (case zc1 => exact Lw.cl_Ratio (by assumption)); (case zc2 => exact Lw.na_Ratio_bottom (by assumption)); (case zl1 => exact rfl); (case zl2 => walk_at "up")))
local macro_rules | `(tactic| walk_at "z") => `(tactic| ((with_reducible refine' z_fldG ?zc1 ?zc2 ?zl0 ?zl1 ?zl2 ?_); (case zc1 => exact Lw.cl_Poly (by assumption)); (case zc2 => exact Lw.na_Poly_numbers (by assumption)); (case zl0 => exact rfl); (case zl1 => walk_at "up"); (case zl2 => exact lkA)))
local macro_rules | `(tactic| walk_at "z") => `(tactic| ((with_reducible refine' z_fldG ?zc1 ?zc2 ?zl0 ?zl1 ?zl2 ?_); (case zc1 => exact Lw.cl_Poly (by assumption)); (case zc2 => exact Lw.na_Poly_over (by assumption)); (case zl0 => exact rfl); (case zl1 => walk_at "up"); (case zl2 => exact lkO)))
local macro_rules | `(tactic| walk_at "z") => `(tactic| ((with_reducible refine' z_fldG ?zc1 ?zc2 ?zl0 ?zl1 ?zl2 ?_); (case zc1 => exact Lw.cl_Poly (by assumption)); (case zc2 => exact Lw.na_Poly_degree (by assumption)); (case zl0 => exact rfl); (case zl1 => walk_at "up"); (case zl2 => exact lkD)))
local macro_rules | `(tactic| walk_at "z") => `(tactic| ((with_reducible refine' z_glst ?zl1 ?zl2 ?_); (case zl1 => walk_at "up"); (case zl2 => exact rfl)))
local macro_rules | `(tactic| walk_at "z") => `(tactic| ((with_reducible refine' z_ixLst ?zl1 ?zl2 ?_); (case zl1 => walk_at "up"); (case zl2 => exact rfl)))
local macro_rules | `(tactic| walk_at "z") => `(tactic| ((with_reducible refine' u_mtV ?zl1 ?_); (case zl1 => walk_at "up")))
local macro_rules | `(tactic| walk_at "z") => `(tactic| ((with_reducible refine' u_mtQP ?zl1 ?_); (case zl1 => walk_at "up")))
local macro_rules | `(tactic| walk_at "z") => `(tactic| ((with_reducible refine' z_fldG ?zc1 ?zc2 ?zl0 ?zl1 ?zl2 ?_); (case zc1 => exact Lw.cl_SixClaim (by assumption)); (case zc2 => exact Lw.na_SixClaim_letters (by assumption)); (case zl0 => exact rfl); (case zl1 => walk_at "up"); (case zl2 => exact lkA)))
local macro_rules | `(tactic| walk_at "z") => `(tactic| ((with_reducible refine' z_fldG ?zc1 ?zc2 ?zl0 ?zl1 ?zl2 ?_); (case zc1 => exact Lw.cl_SixClaim (by assumption)); (case zc2 => exact Lw.na_SixClaim_numbers (by assumption)); (case zl0 => exact rfl); (case zl1 => walk_at "up"); (case zl2 => exact (lkB (by decide +kernel) lkA))))
local macro_rules | `(tactic| walk_at "z") => `(tactic| ((with_reducible refine' z_fldG ?zc1 ?zc2 ?zl0 ?zl1 ?zl2 ?_); (case zc1 => exact Lw.cl_SixPaper (by assumption)); (case zc2 => exact Lw.na_SixPaper_block (by assumption)); (case zl0 => exact rfl); (case zl1 => walk_at "up"); (case zl2 => exact lkA)))
local macro_rules | `(tactic| walk_at "z") => `(tactic| ((with_reducible refine' z_fldG ?zc1 ?zc2 ?zl0 ?zl1 ?zl2 ?_); (case zc1 => exact Lw.cl_SixPaper (by assumption)); (case zc2 => exact Lw.na_SixPaper_amount (by assumption)); (case zl0 => exact rfl); (case zl1 => walk_at "up"); (case zl2 => exact (lkB (by decide +kernel) lkA))))
local macro_rules | `(tactic| walk_at "z") => `(tactic| ((with_reducible refine' z_fldG ?zc1 ?zc2 ?zl0 ?zl1 ?zl2 ?_); (case zc1 => exact Lw.cl_SixPaper (by assumption)); (case zc2 => exact Lw.na_SixPaper_rest (by assumption)); (case zl0 => exact rfl); (case zl1 => walk_at "up"); (case zl2 => exact (lkB (by decide +kernel) (lkB (by decide +kernel) lkA)))))
local macro_rules | `(tactic| walk_at "z") => `(tactic| ((with_reducible refine' u_mtSC ?zl1 ?_); (case zl1 => walk_at "up")))
local macro_rules | `(tactic| walk_at "z") => `(tactic| with_reducible refine z_eqB ?_)
local macro_rules | `(tactic| walk_at "z") => `(tactic| with_reducible refine z_isB ?_)
local macro_rules | `(tactic| walk_at "z") => `(tactic| with_reducible refine u_whole1 ?_)
local macro_rules | `(tactic| walk_at "z") => `(tactic| with_reducible refine z_conS ?_)
local macro_rules | `(tactic| walk_at "z") => `(tactic| with_reducible refine z_prpS ?_)
local macro_rules | `(tactic| walk_at "z") => `(tactic| with_reducible refine z_neStr ?_)
local macro_rules | `(tactic| walk_at "z") => `(tactic| with_reducible refine u_flg ?_)
local macro_rules | `(tactic| walk_at "z") => `(tactic| with_reducible refine z_chain ?_)
local macro_rules | `(tactic| walk_at "z") => `(tactic| with_reducible refine z_andV ?_)
local macro_rules | `(tactic| walk_at "z") => `(tactic| with_reducible refine z_orV ?_)
local macro_rules | `(tactic| walk_at "z") => `(tactic| with_reducible refine z_foZS ?_)
theorem same62k {H H1 H2 : Hp} (h : Same H1 H2) (e : Same H H1) : Same H H2 := e.trans h
local macro_rules | `(tactic| walk_at "sm") => `(tactic| first
  | assumption
  | exact fun _ _ h => h
  | (refine' same62k (by assumption) ?zsm; case zsm => walk_at "sm"))
local macro_rules | `(tactic| walk_at "up") => `(tactic| first
  | assumption
  | (with_reducible refine' IsR.mono (by assumption) ?zup; case zup => walk_at "up")
  | (with_reducible refine' IsV.mono (by assumption) ?zup; case zup => walk_at "up")
  | (with_reducible refine' IsQ.mono (by assumption) ?zup; case zup => walk_at "up")
  | (with_reducible refine' QP.mono (by assumption) ?zup; case zup => walk_at "up")
  | (with_reducible refine' R3.mono (by assumption) ?zup; case zup => walk_at "up")
  | (with_reducible refine' Same.at (by assumption) ?zup; case zup => walk_at "up")
  | (with_reducible refine' Fr.mono (by assumption) ?zup; case zup => walk_at "up")
  | (with_reducible refine' FS.mono (by assumption) ?zup; case zup => walk_at "up")
  | (with_reducible refine' IsSC.mono (by assumption) ?zup; case zup => walk_at "up")
  | (with_reducible refine' L3.mono (by assumption) ?zup; case zup => walk_at "up")
  | (with_reducible refine' L34.mono (by assumption) ?zup; case zup => walk_at "up")
  | (with_reducible refine' L4.mono (by assumption) ?zup; case zup => walk_at "up")
  | (with_reducible refine' PU.mono (by assumption) ?zup; case zup => walk_at "up")
  | (with_reducible refine' IsPool.mono (by assumption) ?zup; case zup => walk_at "up")
  | (with_reducible refine' IsSix.mono (by assumption) ?zup; case zup => walk_at "up")
  | (with_reducible refine' Says.mono (by assumption) ?zup; case zup => walk_at "up")
  | (refine' And.left ?zup; case zup => assumption)
  | fail)
section
variable {P : Program} {w : World} {K : Frag} {mg : Str → Option Value} {base : Heap}
theorem ok_CrossedD_initD (L : Lw K mg) {fd : FuncData} (F : FunD K "__init__" "Crossed.__init__" (defArgs s_CrossedD_initD) (defBody s_CrossedD_initD) (defScope s_CrossedD_initD) (df_CrossedD_initD.dvs K) (df_CrossedD_initD.kws K) (He.fAd K ("Crossed", some "__init__")) fd) : FnOk P w K mg base (L2N.CX P w) 1 (He.fAd K ("Crossed", some "__init__")) fd (["self", "low", "high"] : List Str) (sp3 (fs_ex2 K "Crossed" "low" "high")) := by
  refine FunD.ok F sc_CrossedD_initD len3 (fun cdv A outer s H vs Q E hr h => ?_)
  obtain ⟨a, b, c, rfl, h⟩ := h
  refine ⟨_, (pss_cons (ps_ost (pv 0) (pv 1))
    (pss_one (ps_ost (pv 0) (pv 2)))), ?_⟩
  obtain ⟨e, H0, rfl, rfl, h0, k⟩ := h
  exact run_ex2 (L.ox_Crossed).1 L.na_Crossed_low L.na_Crossed_high h0 rfl rfl rfl k
theorem c_CrossedD_initD (L : Lw K mg) : MakX P w K mg base 1 "Crossed" (He.ga K "Crossed") (sp3 (fs_ex2 K "Crossed" "low" "high")) := by
  obtain ⟨fd, F⟩ := L.d_CrossedD_initD
  exact ⟨⟨_, fd, ["self", "low", "high"], (L.ox_Crossed).1, (L.ox_Crossed).2.1, (L.ox_Crossed).2.2, ok_CrossedD_initD L F, L.g_Crossed, F.bindsN (fun _ _ _ _ _ _ us hl => match us, hl with | [_, _, _], _ => rfl)⟩⟩
theorem ok_TooHighD_initD (L : Lw K mg) {fd : FuncData} (F : FunD K "__init__" "TooHigh.__init__" (defArgs s_TooHighD_initD) (defBody s_TooHighD_initD) (defScope s_TooHighD_initD) (df_TooHighD_initD.dvs K) (df_TooHighD_initD.kws K) (He.fAd K ("TooHigh", some "__init__")) fd) : FnOk P w K mg base (L2N.CX P w) 1 (He.fAd K ("TooHigh", some "__init__")) fd (["self", "degree"] : List Str) (sp2 (fs_ex1 K "TooHigh" "degree")) := by
  refine FunD.ok F sc_TooHighD_initD len2 (fun cdv A outer s H vs Q E hr h => ?_)
  obtain ⟨a, b, rfl, h⟩ := h
  refine ⟨_, (pss_one (ps_ost (pv 0) (pv 1))), ?_⟩
  obtain ⟨e, H0, rfl, rfl, h0, k⟩ := h
  exact run_ex1 (L.ox_TooHigh).1 L.na_TooHigh_degree h0 rfl rfl k
theorem c_TooHighD_initD (L : Lw K mg) : MakX P w K mg base 1 "TooHigh" (He.ga K "TooHigh") (sp2 (fs_ex1 K "TooHigh" "degree")) := by
  obtain ⟨fd, F⟩ := L.d_TooHighD_initD
  exact ⟨⟨_, fd, ["self", "degree"], (L.ox_TooHigh).1, (L.ox_TooHigh).2.1, (L.ox_TooHigh).2.2, ok_TooHighD_initD L F, L.g_TooHigh, F.bindsN (fun _ _ _ _ _ _ us hl => match us, hl with | [_, _], _ => rfl)⟩⟩
theorem ok_PieceD_initD (L : Lw K mg) {fd : FuncData} (F : FunD K "__init__" "Piece.__init__" (defArgs s_PieceD_initD) (defBody s_PieceD_initD) (defScope s_PieceD_initD) (df_PieceD_initD.dvs K) (df_PieceD_initD.kws K) (He.fAd K ("Piece", some "__init__")) fd) : FnOk P w K mg base (L2N.CX P w) 3 (He.fAd K ("Piece", some "__init__")) fd (["self", "low", "high"] : List Str) (sp3 (fs_pc K)) := by
  refine FunD.ok F sc_PieceD_initD len3 (fun cdv A outer s H vs Q E hr h => ?_)
  obtain ⟨a, b, c, rfl, h⟩ := h
  refine ⟨_, (pss_cons (ps_if (PW.pt (pw_and (pt_cmpR o_notN (pv 1) pe_non (nomark _)) (pw_and (pt_cmpR o_notN (pv 2) pe_non (nomark _)) (pw_and1 (pt_cmpR o_gt (pe_mt (c_Ratio_compare (K := K) L) hr (by decide) (L2N.takes_of rfl rfl rfl rfl) (pv 1) (pa_cons (pv 2) pa_nil)) pe_int (nomark _)))))) (pss_one (L2N.ps_raise rfl (L2N.takes_of rfl rfl rfl rfl) (pmk_x (c_CrossedD_initD (K := K) L) hr (by decide) passF (pa_cons (pv 1) (pa_cons (pv 2) pa_nil))))) pss_nil)
    (pss_cons (ps_fld (pv 0) (pv 1) rfl)
    (pss_one (ps_fld (pv 0) (pv 2) rfl)))), ?_⟩
  obtain ⟨x, dx, l, h, H0, v, w, rfl, rfl, rfl, rfl, hx, hdx, ne, hl, hh, vw, k⟩ := h
  have sm : Same H0 (upd (upd H0 dx (.own x)) x (.ins (He.ga K "Piece") dx [])) := (Same.put (Same.new hdx) hx)
  have hxx : upd (upd H0 dx (.own x)) x (.ins (He.ga K "Piece") dx []) x = some (.ins (He.ga K "Piece") dx []) := upd_same
  have hl2 := hl.mono sm
  have hh2 := hh.mono sm
  generalize upd (upd H0 dx (.own x)) x (.ins (He.ga K "Piece") dx []) = H at *
  walk_at "zz"
  refine ⟨_, _, rfl, l, h, v, w, 20, rfl, rfl, hl2, hh2, by decide, by decide, ?_⟩
  walk_at "zz"
  refine z_dF (cmp_le vw) ?_
  walk_at "zz"
  refine z_sflp L.cl_Piece L.na_Piece_low rfl hxx (by show 0 < 1000; decide) ?_
  rw [pfN]
  have hxx : (upd H x (.ins (He.ga K "Piece") dx [("low", .ref l)])) x = some (.ins (He.ga K "Piece") dx [("low", .ref l)]) := upd_same
  have sm : Same H0 (upd H x (.ins (He.ga K "Piece") dx [("low", .ref l)])) := Same.put sm hx
  generalize (upd H x (.ins (He.ga K "Piece") dx [("low", .ref l)])) = H at *
  walk_at "zz"
  refine z_sflp L.cl_Piece L.na_Piece_high rfl hxx (by show 1 < 1000; decide) ?_
  rw [pfB (by decide +kernel), pfN]
  walk_at "zz"
  exact k _ _ (Same.put sm hx) upd_same
theorem c_PieceD_initD (L : Lw K mg) : Mak P w K mg base 3 "Piece" (He.ga K "Piece") (sp3 (fs_pc K)) [] := by
  obtain ⟨fd, F⟩ := L.d_PieceD_initD
  exact ⟨⟨_, fd, ["self", "low", "high"], [], L.mk_Piece, ok_PieceD_initD L F, L.g_Piece, F.bindsN (fun _ _ _ _ _ _ us hl => match us, hl with | [_, _, _], _ => rfl), .nil⟩⟩
theorem ok_LineClaimD_initD (L : Lw K mg) {fd : FuncData} (F : FunD K "__init__" "LineClaim.__init__" (defArgs s_LineClaimD_initD) (defBody s_LineClaimD_initD) (defScope s_LineClaimD_initD) (df_LineClaimD_initD.dvs K) (df_LineClaimD_initD.kws K) (He.fAd K ("LineClaim", some "__init__")) fd) : FnOk P w K mg base (L2N.CX P w) 3 (He.fAd K ("LineClaim", some "__init__")) fd (["self", "poly", "piece"] : List Str) (sp3 (fs_lic K)) := by
  refine FunD.ok F sc_LineClaimD_initD len3 (fun cdv A outer s H vs Q E hr h => ?_)
  obtain ⟨a, b, c, rfl, h⟩ := h
  refine ⟨_, (pss_cons (ps_if (pt_cmpR o_gt (pe_fld (pv 1) rfl) pe_int (nomark _)) (pss_one (L2N.ps_raise rfl (L2N.takes_of rfl rfl rfl rfl) (pmk_x (c_TooHighD_initD (K := K) L) hr (by decide) passF (pa_cons (pe_fld (pv 1) rfl) pa_nil)))) pss_nil)
    (pss_cons (ps_fld (pv 0) (pv 1) rfl)
    (pss_cons (ps_fld (pv 0) (pv 2) rfl)
    (pss_one (ps_fld (pv 0) pe_int rfl))))), ?_⟩
  obtain ⟨x, dx, p, H0, ls, o, rfl, rfl, rfl, hx, hdx, ne, hp, l3, k⟩ := h
  have sm : Same H0 (upd (upd H0 dx (.own x)) x (.ins (He.ga K "LineClaim") dx [])) := (Same.put (Same.new hdx) hx)
  have hxx : upd (upd H0 dx (.own x)) x (.ins (He.ga K "LineClaim") dx []) x = some (.ins (He.ga K "LineClaim") dx []) := upd_same
  have hp2 := hp.mono sm
  generalize upd (upd H0 dx (.own x)) x (.ins (He.ga K "LineClaim") dx []) = H at *
  walk_at "zz"
  obtain ⟨dp, tp, hpI, hpt⟩ := id hp2
  refine ⟨p, _, dp, _, _, rfl, hpI, L.cl_Poly, L.na_Poly_degree, lkB (by decide +kernel) (lkB (by decide +kernel) lkA), ?_⟩
  walk_at "zz"
  refine z_dF (by omega) ?_
  walk_at "zz"
  refine z_sflp L.cl_LineClaim L.na_LineClaim_poly rfl hxx (by show 0 < 1000; decide) ?_
  rw [pfN]
  have hxx : (upd H x (.ins (He.ga K "LineClaim") dx [("poly", .ref p)])) x = some (.ins (He.ga K "LineClaim") dx [("poly", .ref p)]) := upd_same
  have sm : Same H0 (upd H x (.ins (He.ga K "LineClaim") dx [("poly", .ref p)])) := Same.put sm hx
  generalize (upd H x (.ins (He.ga K "LineClaim") dx [("poly", .ref p)])) = H at *
  walk_at "zz"
  refine z_sflp L.cl_LineClaim L.na_LineClaim_piece rfl hxx (by show 1 < 1000; decide) ?_
  rw [pfB (by decide +kernel), pfN]
  have hxx : (upd H x (.ins (He.ga K "LineClaim") dx [("poly", .ref p), ("piece", c)])) x = some (.ins (He.ga K "LineClaim") dx [("poly", .ref p), ("piece", c)]) := upd_same
  have sm : Same H0 (upd H x (.ins (He.ga K "LineClaim") dx [("poly", .ref p), ("piece", c)])) := Same.put sm hx
  generalize (upd H x (.ins (He.ga K "LineClaim") dx [("poly", .ref p), ("piece", c)])) = H at *
  walk_at "zz"
  refine z_sflp L.cl_LineClaim L.na_LineClaim_letters rfl hxx (by show 2 < 1000; decide) ?_
  rw [pfB (by decide +kernel), pfB (by decide +kernel), pfN]
  walk_at "zz"
  exact k _ _ (Same.put sm hx) upd_same
theorem c_LineClaimD_initD (L : Lw K mg) : Mak P w K mg base 3 "LineClaim" (He.ga K "LineClaim") (sp3 (fs_lic K)) [] := by
  obtain ⟨fd, F⟩ := L.d_LineClaimD_initD
  exact ⟨⟨_, fd, ["self", "poly", "piece"], [], L.mk_LineClaim, ok_LineClaimD_initD L F, L.g_LineClaim, F.bindsN (fun _ _ _ _ _ _ us hl => match us, hl with | [_, _, _], _ => rfl), .nil⟩⟩
theorem ok_FourClaimD_initD (L : Lw K mg) {fd : FuncData} (F : FunD K "__init__" "FourClaim.__init__" (defArgs s_FourClaimD_initD) (defBody s_FourClaimD_initD) (defScope s_FourClaimD_initD) (df_FourClaimD_initD.dvs K) (df_FourClaimD_initD.kws K) (He.fAd K ("FourClaim", some "__init__")) fd) : FnOk P w K mg base (L2N.CX P w) 4 (He.fAd K ("FourClaim", some "__init__")) fd (["self", "letters", "numbers"] : List Str) (sp3 (fs_foc K)) := by
  refine FunD.ok F sc_FourClaimD_initD len3 (fun cdv A outer s H vs Q E hr h => ?_)
  obtain ⟨a, b, c, rfl, h⟩ := h
  refine ⟨_, (pss_cons (ps_expr (pe_c (c_check_number (K := K) L) hr (by decide) (L2N.takes_of rfl rfl rfl rfl) (pa_cons (pv 1) (pa_cons pe_int (pa_cons pe_int pa_nil)))))
    (pss_cons (ps_expr (pe_c (c_check_size (K := K) L) hr (by decide) (L2N.takes_of rfl rfl rfl rfl) (pa_cons (pv 2) (pa_cons pe_int (pa_cons pe_int pa_nil)))))
    (pss_cons (ps_fld (pv 0) (pv 1) rfl)
    (pss_one (ps_fld (pv 0) (pe_callTy (callK rTup1 (K := K) rfl call_tuple_of) (by rfl) L.f_tuple (by decide +kernel) (pa_cons (pv 2) pa_nil)) rfl))))), ?_⟩
  obtain ⟨x, dx, q, H0, n, xs, rfl, rfl, rfl, rfl, hx, hdx, ne, hq, l5, n1, n2, k⟩ := h
  have sm : Same H0 (upd (upd H0 dx (.own x)) x (.ins (He.ga K "FourClaim") dx [])) := (Same.put (Same.new hdx) hx)
  have hxx : upd (upd H0 dx (.own x)) x (.ins (He.ga K "FourClaim") dx []) x = some (.ins (He.ga K "FourClaim") dx []) := upd_same
  have hq2 := sm _ _ hq
  generalize upd (upd H0 dx (.own x)) x (.ins (He.ga K "FourClaim") dx []) = H at *
  walk_at "zz"
  refine ⟨_, _, _, rfl, n, 2, rfl, rfl, .inr ⟨24, rfl⟩, fun _ => ?_, fun z => absurd ⟨n1, fun h e => by cases e; exact n2⟩ z⟩
  walk_at "zz"
  refine ⟨_, _, _, rfl, q, xs, 5, 5, rfl, rfl, rfl, .inl hq2, fun _ => ?_, fun z => absurd ⟨by omega, by omega⟩ z⟩
  walk_at "zz"
  refine z_sflp L.cl_FourClaim L.na_FourClaim_letters rfl hxx (by show 0 < 1000; decide) ?_
  rw [pfN]
  have e2 : (upd H x (.ins (He.ga K "FourClaim") dx [("letters", .int n)])) x = some (.ins (He.ga K "FourClaim") dx [("letters", .int n)]) := upd_same
  have s2 : Same H0 (upd H x (.ins (He.ga K "FourClaim") dx [("letters", .int n)])) := Same.put sm hx
  generalize (upd H x (.ins (He.ga K "FourClaim") dx [("letters", .int n)])) = H2 at *
  have hq3 := s2 _ _ hq
  walk_at "zz"
  refine z_tup1L hq3 (fun t H3 ht s3 et => ?_)
  walk_at "zz"
  refine z_sflp L.cl_FourClaim L.na_FourClaim_numbers rfl (s3 _ _ e2) (by show 1 < 1000; decide) ?_
  rw [pfB (by decide +kernel), pfN]
  walk_at "zz"
  exact k _ _ (Same.put (s2.trans s3) hx) upd_same
theorem c_FourClaimD_initD (L : Lw K mg) : Mak P w K mg base 4 "FourClaim" (He.ga K "FourClaim") (sp3 (fs_foc K)) [] := by
  obtain ⟨fd, F⟩ := L.d_FourClaimD_initD
  exact ⟨⟨_, fd, ["self", "letters", "numbers"], [], L.mk_FourClaim, ok_FourClaimD_initD L F, L.g_FourClaim, F.bindsN (fun _ _ _ _ _ _ us hl => match us, hl with | [_, _, _], _ => rfl), .nil⟩⟩
theorem ok_CutPaperD_initD (L : Lw K mg) {fd : FuncData} (F : FunD K "__init__" "CutPaper.__init__" (defArgs s_CutPaperD_initD) (defBody s_CutPaperD_initD) (defScope s_CutPaperD_initD) (df_CutPaperD_initD.dvs K) (df_CutPaperD_initD.kws K) (He.fAd K ("CutPaper", some "__init__")) fd) : FnOk P w K mg base (L2N.CX P w) 3 (He.fAd K ("CutPaper", some "__init__")) fd (["self", "side", "core", "cuts"] : List Str) (sp4 (fs_cut K)) := by
  refine FunD.ok F sc_CutPaperD_initD len4 (fun cdv A outer s H vs Q E hr h => ?_)
  obtain ⟨a, b, c, d, rfl, h⟩ := h
  refine ⟨_, (pss_cons (ps_for (passes_of rfl) rfl (piK (fun K => iZipM K _) (K := K) rfl (pi_zipM (by rfl) L.f_zip (pa_cons (pv 3) (pa_cons (pe_slice (slK rSlL (K := K) rfl sl_list) (pv 3) (po_some pe_int) po_none) pa_nil)))) (pg_tup (by rfl) (pgs_cons (pg_name (i := 4) sc_CutPaperD_initD.nd rfl (by first | exact Or.inl rfl | exact Or.inr rfl)) (pgs_cons (pg_name (i := 5) sc_CutPaperD_initD.nd rfl (by first | exact Or.inl rfl | exact Or.inr rfl)) pgs_nil))) (pss_one (ps_if (pt_cmpR o_ge (pe_mt (c_Ratio_compare (K := K) L) hr (by decide) (L2N.takes_of rfl rfl rfl rfl) (pv 4) (pa_cons (pv 5) pa_nil)) pe_int (nomark _)) (pss_one (L2N.ps_raise rfl (L2N.takes_of rfl rfl rfl rfl) (pmk_x (c_CrossedD_initD (K := K) L) hr (by decide) passF (pa_cons (pv 4) (pa_cons (pv 5) pa_nil))))) pss_nil)))
    (pss_cons (ps_fld (pv 0) (pv 1) rfl)
    (pss_cons (ps_fld (pv 0) (pv 2) rfl)
    (pss_one (ps_fld (pv 0) (pe_callTy (callK rTup1 (K := K) rfl call_tuple_of) (by rfl) L.f_tuple (by decide +kernel) (pa_cons (pv 3) pa_nil)) rfl))))), ?_⟩
  obtain ⟨x, dx, q, H0, rfl, rfl, rfl, hx, hdx, ne, hq, k⟩ := h
  have sm : Same H0 (upd (upd H0 dx (.own x)) x (.ins (He.ga K "CutPaper") dx [])) := (Same.put (Same.new hdx) hx)
  have hxx : upd (upd H0 dx (.own x)) x (.ins (He.ga K "CutPaper") dx []) x = some (.ins (He.ga K "CutPaper") dx []) := upd_same
  have hq2 := sm _ _ hq
  generalize upd (upd H0 dx (.own x)) x (.ins (He.ga K "CutPaper") dx []) = H at *
  walk_at "zz"
  refine ⟨q, _, rfl, SqL.of hq2, fun cc hcc => ?_⟩
  have s2 : Same H (upd H cc (.lst (cutV [] (some 1) none))) := Same.new hcc
  have ec : (upd H cc (.lst (cutV [] (some 1) none))) cc = some (.lst (cutV [] (some 1) none)) := upd_same
  generalize (upd H cc (.lst (cutV [] (some 1) none))) = H2 at *
  have hq3 := s2 _ _ hq2
  have hxx := s2 _ _ hxx
  have sm := sm.trans s2
  walk_at "zz"
  refine z_foZ0 hq3 ec ?_
  walk_at "zz"
  refine z_sflp L.cl_CutPaper L.na_CutPaper_side rfl hxx (by show 0 < 1000; decide) ?_
  rw [pfN]
  have hxx : (upd H2 x (.ins (He.ga K "CutPaper") dx [("side", b)])) x = some (.ins (He.ga K "CutPaper") dx [("side", b)]) := upd_same
  have sm : Same H0 (upd H2 x (.ins (He.ga K "CutPaper") dx [("side", b)])) := Same.put sm hx
  generalize (upd H2 x (.ins (He.ga K "CutPaper") dx [("side", b)])) = H3 at *
  walk_at "zz"
  refine z_sflp L.cl_CutPaper L.na_CutPaper_core rfl hxx (by show 1 < 1000; decide) ?_
  rw [pfB (by decide +kernel), pfN]
  have hxx : (upd H3 x (.ins (He.ga K "CutPaper") dx [("side", b), ("core", c)])) x = some (.ins (He.ga K "CutPaper") dx [("side", b), ("core", c)]) := upd_same
  have sm : Same H0 (upd H3 x (.ins (He.ga K "CutPaper") dx [("side", b), ("core", c)])) := Same.put sm hx
  generalize (upd H3 x (.ins (He.ga K "CutPaper") dx [("side", b), ("core", c)])) = H4 at *
  have hq4 := sm _ _ hq
  walk_at "zz"
  refine z_tup1L hq4 (fun t H5 ht s5 et => ?_)
  walk_at "zz"
  refine z_sflp L.cl_CutPaper L.na_CutPaper_cuts rfl (s5 _ _ hxx) (by show 2 < 1000; decide) ?_
  rw [pfB (by decide +kernel), pfB (by decide +kernel), pfN]
  walk_at "zz"
  exact k _ _ (Same.put (sm.trans s5) hx) upd_same rfl
theorem c_CutPaperD_initD (L : Lw K mg) : Mak P w K mg base 3 "CutPaper" (He.ga K "CutPaper") (sp4 (fs_cut K)) [] := by
  obtain ⟨fd, F⟩ := L.d_CutPaperD_initD
  exact ⟨⟨_, fd, ["self", "side", "core", "cuts"], [], L.mk_CutPaper, ok_CutPaperD_initD L F, L.g_CutPaper, F.bindsN (fun _ _ _ _ _ _ us hl => match us, hl with | [_, _, _, _], _ => rfl), .nil⟩⟩
theorem ok_law_long_rests (L : Lw K mg) {fd : FuncData} (F : FunD K "_law_long_rests" "_law_long_rests" (defArgs s_law_long_rests) (defBody s_law_long_rests) (defScope s_law_long_rests) (df_law_long_rests.dvs K) (df_law_long_rests.kws K) (He.fAd K ("_law_long_rests", none)) fd) : FnOk P w K mg base (L2N.CX P w) 12 (He.fAd K ("_law_long_rests", none)) fd (["n", "k", "part", "rest", "low"] : List Str) (sp5 (fs_lrs K)) := by
  refine FunD.ok F sc_law_long_rests len5 (fun cdv A outer s H vs Q E hr h => ?_)
  obtain ⟨x1, x2, x3, x4, x5, rfl, h⟩ := h
  refine ⟨_, (pss_cons (ps_set (i := 5) sc_law_long_rests.nd rfl (by first | exact Or.inl rfl | exact Or.inr rfl) (pe_c (c_law_claim (K := K) L) hr (by decide) (L2N.takes_of rfl rfl rfl rfl) (pa_cons (pv 0) (pa_cons (pe_c (c_law_sum (K := K) L) hr (by decide) (L2N.takes_of rfl rfl rfl rfl) (pa_cons (pv 0) (pa_cons (pv 1) (pa_cons (pv 2) (pa_cons (pv 3) (pa_cons (pv 4) pa_nil)))))) pa_nil))))
    (pss_cons (ps_set (i := 6) sc_law_long_rests.nd rfl (by first | exact Or.inl rfl | exact Or.inr rfl) (pe_lst (pa_cons (pe_op o_sub (pe_ix (ix_seqK (K := K) rfl) (pv 3) pe_int (fun _ _ => rfl)) pe_int) (pa_cons (pe_op o_cat (pe_ix (ix_seqK (K := K) rfl) (pv 3) pe_int (fun _ _ => rfl)) pe_int) (pa_cons (pe_op o_sub (pe_ix (ix_seqK (K := K) rfl) (pv 3) pe_int (fun _ _ => rfl)) pe_int) (pa_cons pe_int pa_nil))))))
    (pss_cons (ps_set (i := 7) sc_law_long_rests.nd rfl (by first | exact Or.inl rfl | exact Or.inr rfl) (pe_lst (pa_cons (pe_op o_cat (pe_ix (ix_seqK (K := K) rfl) (pv 3) pe_int (fun _ _ => rfl)) pe_int) (pa_cons (pe_op o_sub (pe_ix (ix_seqK (K := K) rfl) (pv 3) pe_int (fun _ _ => rfl)) pe_int) (pa_cons (pe_op o_cat (pe_ix (ix_seqK (K := K) rfl) (pv 3) pe_int (fun _ _ => rfl)) pe_int) (pa_cons (pe_un o_neg pe_int) (pa_cons pe_int pa_nil)))))))
    (pss_cons (ps_for (passes_of rfl) rfl (pi_listK (K := K) rfl (pe_lst (pa_cons (pv 6) (pa_cons (pv 7) pa_nil)))) (pg_name (i := 8) sc_law_long_rests.nd rfl (by first | exact Or.inl rfl | exact Or.inr rfl)) (pss_cons (ps_set (i := 9) sc_law_long_rests.nd rfl (by first | exact Or.inl rfl | exact Or.inr rfl) (pe_c (c_law_made (K := K) L) hr (by decide) (L2N.takes_of rfl rfl rfl rfl) (pa_cons (pv 1) (pa_cons (pv 2) (pa_cons (pv 8) (pa_cons (pv 4) pa_nil))))))
    (pss_one (ps_if (pt_not (pt_val (pe_c (c_law_says (K := K) L) hr (by decide) (L2N.takes_of rfl rfl rfl rfl) (pa_cons (pv 5) (pa_cons (pv 9) (pa_cons pe_bl pa_nil)))))) (pss_one (ps_ret pe_bl)) pss_nil))))
    (pss_one (ps_ret pe_bl)))))), ?_⟩
  rw [show L2.start (["n", "k", "part", "rest", "low", "claim", "three", "four", "long", "paper"] : List Str) [x1, x2, x3, x4, x5] = [some x1, some x2, some x3, some x4, some x5, none, none, none, none, none] from rfl]
  obtain ⟨n, k, u, b, r0, r1, r2, low, p, r, rfl, rfl, rfl, rfl, rfl, hP, u0, u1, hR, nn, k0, kn, n1, n2, l0, bl, fin⟩ := h
  obtain ⟨hp, bu, b0, bbb⟩ := id hP
  obtain ⟨hr3, c0, c1, c2⟩ := id hR
  try dsimp only [List.set]
  walk_at "zz"
  refine ⟨_, _, _, _, _, rfl, n, k, u, b, r0, r1, r2, low, p, r, 240, rfl, rfl, rfl, rfl, rfl, hP, hR, by decide, by decide, k0, by omega, n1, n2, l0, bl, fun q H1 s1 hQ => ?_⟩
  have hQ9 : L4 H1 q _ _ _ _ 390 := ⟨hQ.1, hQ.2.1.up (by decide), hQ.2.2.1.up (by decide), hQ.2.2.2.1.up (by decide), hQ.2.2.2.2⟩
  try dsimp only [List.set]
  walk_at "zz"
  refine ⟨_, _, rfl, n, _, _, _, _, q, rfl, rfl, hQ9, n1, n2, fun cl H2 s2 hcl => ?_⟩
  have hr2 := (s1.trans s2) _ _ hr3
  try dsimp only [List.set]
  walk_at "zz"
  rename_i x6 H3 hx6 s3 e6 x7 H4 hx7 s4 e7 x8 H5 hx8 s5 e8
  have s15 := (s1.trans s2).trans ((s3.trans s4).trans s5)
  have all2 : ∀ (i : Nat) xx, [V.ref x6, V.ref x7][i]? = some xx → ∃ a ns m, xx = .ref a ∧ H5 a = some (.lst ((ns : List Int).map V.int)) ∧ ns.length ≤ 20 ∧ ns.length = m + 1 ∧ 3 ≤ m ∧ cf ns m ≠ 0 := fun i xx h => by
    rcases i with _ | _ | i
    · cases h
      exact ⟨x6, [r0 - 6, r1 + 11, r2 - 6, 1], 3, rfl, s5 _ _ (s4 _ _ e6), Nat.le_of_ble_eq_true rfl, rfl, by decide, by show (1 : Int) ≠ 0; decide⟩
    · cases h
      exact ⟨x7, [r0 + 4, r1 - 12, r2 + 13, -6, 1], 4, rfl, s5 _ _ e7, Nat.le_of_ble_eq_true rfl, rfl, by decide, by show (1 : Int) ≠ 0; decide⟩
    · cases h
  refine z_foV e8 (fun i σ' H' => ∃ y8 y9 : Option V, σ' = [some (.int n), some (.int k), some (.ref p), some (.ref r), some (.int low), some (.ref cl), some (.ref x6), some (.ref x7), y8, y9] ∧ Same H5 H') ⟨_, _, rfl, fun _ _ h => h⟩ (fun i σ' H' z => by obtain ⟨_, _, _, s⟩ := z; exact s _ _ e8) ?_ ?_
  · rintro i xx σ' H' ex ⟨y8, y9, rfl, sh⟩
    obtain ⟨a, ns, m, rfl, ha, hn, hm, m3, nz⟩ := all2 i xx ex
    try dsimp only [List.set]
    walk_at "zz"
    refine ⟨_, _, _, _, rfl, k, u, b, low, p, a, ns, rfl, rfl, rfl, rfl, hP.mono (s15.trans sh), k0, by omega, l0, bl, sh _ _ ha, hn, fun s wv v ls o H6 s6 hsix hFr hI hLw => ?_⟩
    have hV := (fr_isV (B := 40) hFr b0 (bu.up (by decide)) bbb (by decide)).2 (by decide)
    have hl := LowT.last hLw m hm l0 nz
    have hcl6 := (((hcl.mono (s3.trans s4)).mono s5).mono sh).mono s6
    try dsimp only [List.set]
    walk_at "zz"
    refine u_say (.inl (.inr (.inr ⟨k, n, wv, v, _, _, _, _, 390, ls, o, hsix, hV, hI, by omega, by omega, hcl6, kn, (dv_ge b0).mpr u0, rfl⟩))) (fun H7 s7 => ?_)
    try dsimp only [List.set]
    walk_at "zz"
    exact ⟨_, _, rfl, (sh.trans s6).trans s7⟩
  rintro σ' HB ⟨y8, y9, rfl, sB⟩
  try dsimp only [List.set]
  walk_at "zz"
  exact fin _ (s15.trans sB)
theorem c_law_long_rests (L : Lw K mg) : Cal P w K mg base 12 "_law_long_rests" (sp5 (fs_lrs K)) [] := by
  obtain ⟨fd, F⟩ := L.d_law_long_rests
  exact ⟨⟨_, fd, ["n", "k", "part", "rest", "low"], [], ok_law_long_rests L F, L.g_law_long_rests, F.kp, F.bindsN (fun _ _ _ _ _ _ us hl => match us, hl with | [_, _, _, _, _], _ => rfl), .nil⟩⟩
theorem ok_law_other_sorts (L : Lw K mg) {fd : FuncData} (F : FunD K "_law_other_sorts" "_law_other_sorts" (defArgs s_law_other_sorts) (defBody s_law_other_sorts) (defScope s_law_other_sorts) (df_law_other_sorts.dvs K) (df_law_other_sorts.kws K) (He.fAd K ("_law_other_sorts", none)) fd) : FnOk P w K mg base (L2N.CX P w) 12 (He.fAd K ("_law_other_sorts", none)) fd (["n", "k", "part", "rest", "low"] : List Str) (sp5 (fs_lrs K)) := by
  refine FunD.ok F sc_law_other_sorts len5 (fun cdv A outer s H vs Q E hr h => ?_)
  obtain ⟨x1, x2, x3, x4, x5, rfl, h⟩ := h
  refine ⟨_, (pss_cons (ps_set (i := 5) sc_law_other_sorts.nd rfl (by first | exact Or.inl rfl | exact Or.inr rfl) (pe_c (c_law_sum (K := K) L) hr (by decide) (L2N.takes_of rfl rfl rfl rfl) (pa_cons (pv 0) (pa_cons (pv 1) (pa_cons (pv 2) (pa_cons (pv 3) (pa_cons (pv 4) pa_nil)))))))
    (pss_cons (ps_set (i := 6) sc_law_other_sorts.nd rfl (by first | exact Or.inl rfl | exact Or.inr rfl) (pe_c (c_law_claim (K := K) L) hr (by decide) (L2N.takes_of rfl rfl rfl rfl) (pa_cons (pv 0) (pa_cons (pv 5) pa_nil))))
    (pss_cons (ps_set (i := 7) sc_law_other_sorts.nd rfl (by first | exact Or.inl rfl | exact Or.inr rfl) (pe_c (c_law_made (K := K) L) hr (by decide) (L2N.takes_of rfl rfl rfl rfl) (pa_cons (pv 1) (pa_cons (pv 2) (pa_cons (pv 3) (pa_cons (pv 4) pa_nil))))))
    (pss_cons (ps_set (i := 8) sc_law_other_sorts.nd rfl (by first | exact Or.inl rfl | exact Or.inr rfl) (pe_mk (c_PolyD_initD (K := K) L) hr (by decide) (L2N.takes_of rfl rfl rfl rfl) (pa_cons (pe_slice (slK rSlL (K := K) rfl sl_list) (pv 5) po_none (po_some pe_int)) (pa_cons (pe_ix (ix_seqK (K := K) rfl) (pv 5) pe_int (fun _ _ => rfl)) pa_nil))))
    (pss_cons (ps_set (i := 9) sc_law_other_sorts.nd rfl (by first | exact Or.inl rfl | exact Or.inr rfl) (pe_mk (c_LineClaimD_initD (K := K) L) hr (by decide) (L2N.takes_of rfl rfl rfl rfl) (pa_cons (pv 8) (pa_cons (pe_mk (c_PieceD_initD (K := K) L) hr (by decide) (L2N.takes_of rfl rfl rfl rfl) (pa_cons (pe_mk (c1_RatioD_initD (K := K) L) hr (by decide) (L2N.takes_of rfl rfl rfl rfl) (pa_cons pe_int pa_nil)) (pa_cons (pe_mk (c1_RatioD_initD (K := K) L) hr (by decide) (L2N.takes_of rfl rfl rfl rfl) (pa_cons (pv 0) pa_nil)) pa_nil))) pa_nil))))
    (pss_cons (ps_set (i := 10) sc_law_other_sorts.nd rfl (by first | exact Or.inl rfl | exact Or.inr rfl) (pe_mk (c_FourClaimD_initD (K := K) L) hr (by decide) (L2N.takes_of rfl rfl rfl rfl) (pa_cons (pe_callB (o_min2 rfl) (by rfl) L.f_min (by decide +kernel) (pa_cons (pv 0) (pa_cons pe_int pa_nil))) (pa_cons (pe_op o_rep (pe_lst (pa_cons (pe_mk (c1_RatioD_initD (K := K) L) hr (by decide) (L2N.takes_of rfl rfl rfl rfl) (pa_cons pe_int pa_nil)) pa_nil)) pe_int) pa_nil))))
    (pss_cons (ps_for (passes_of rfl) rfl (pi_range1 (by rfl) L.f_range (pa_cons pe_int pa_nil)) (pg_name (i := 11) sc_law_other_sorts.nd rfl (by first | exact Or.inl rfl | exact Or.inr rfl)) (pss_cons (ps_if (pt_not (pt_val (pe_c (c_law_says (K := K) L) hr (by decide) (L2N.takes_of rfl rfl rfl rfl) (pa_cons (pv 9) (pa_cons (pv 7) (pa_cons pe_bl pa_nil)))))) (pss_one (ps_ret pe_bl)) pss_nil)
    (pss_cons (ps_if (pt_not (pt_val (pe_c (c_law_says (K := K) L) hr (by decide) (L2N.takes_of rfl rfl rfl rfl) (pa_cons (pv 6) (pa_cons (pv 7) (pa_cons pe_bl pa_nil)))))) (pss_one (ps_ret pe_bl)) pss_nil)
    (pss_one (ps_if (pt_not (pt_val (pe_c (c_law_says (K := K) L) hr (by decide) (L2N.takes_of rfl rfl rfl rfl) (pa_cons (pv 10) (pa_cons (pv 7) (pa_cons pe_bl pa_nil)))))) (pss_one (ps_ret pe_bl)) pss_nil)))))
    (pss_one (ps_ret (pe_c (c_law_says (K := K) L) hr (by decide) (L2N.takes_of rfl rfl rfl rfl) (pa_cons (pv 6) (pa_cons (pe_mk (c_CutPaperD_initD (K := K) L) hr (by decide) (L2N.takes_of rfl rfl rfl rfl) (pa_cons (pe_mk (c1_PolyD_initD (K := K) L) hr (by decide) (L2N.takes_of rfl rfl rfl rfl) (pa_cons (pe_lst (pa_cons pe_int pa_nil)) pa_nil)) (pa_cons (pv 8) (pa_cons (pe_lst pa_nil) pa_nil)))) (pa_cons pe_bl pa_nil))))))))))))), ?_⟩
  rw [show L2.start (["n", "k", "part", "rest", "low", "q", "claim", "paper", "poly", "line", "four", "turn"] : List Str) [x1, x2, x3, x4, x5] = [some x1, some x2, some x3, some x4, some x5, none, none, none, none, none, none, none] from rfl]
  obtain ⟨n, k, u, b, r0, r1, r2, low, p, r, rfl, rfl, rfl, rfl, rfl, hP, u0, u1, hR, nn, k0, kn, n1, n2, l0, bl, fin⟩ := h
  obtain ⟨hp, bu, b0, bbb⟩ := id hP
  obtain ⟨hr3, c0, c1, c2⟩ := id hR
  try dsimp only [List.set]
  walk_at "zz"
  refine ⟨_, _, _, _, _, rfl, n, k, u, b, r0, r1, r2, low, p, r, 240, rfl, rfl, rfl, rfl, rfl, hP, hR, by decide, by decide, k0, by omega, n1, n2, l0, bl, fun q H1 s1 hQ => ?_⟩
  have hQ9 : L4 H1 q _ _ _ _ 390 := ⟨hQ.1, hQ.2.1.up (by decide), hQ.2.2.1.up (by decide), hQ.2.2.2.1.up (by decide), hQ.2.2.2.2⟩
  try dsimp only [List.set]
  walk_at "zz"
  refine ⟨_, _, rfl, n, _, _, _, _, q, rfl, rfl, hQ9, n1, n2, fun cl H2 s2 hcl => ?_⟩
  try dsimp only [List.set]
  walk_at "zz"
  refine ⟨_, _, _, _, rfl, k, u, b, low, p, r, [r0, r1, r2], rfl, rfl, rfl, rfl, hP.mono (s1.trans s2), k0, by omega, l0, bl, (s1.trans s2) _ _ hr3, Nat.le_of_ble_eq_true rfl, fun s wv v ls o H3 s3 hsix hFr hI hLw => ?_⟩
  have hV := (fr_isV (B := 40) hFr b0 (bu.up (by decide)) bbb (by decide)).2 (by decide)
  have hQP := QP.low hI hLw l0 bl (c0.up (by decide)) (c1.up (by decide)) (c2.up (by decide))
  have hq3 := (s2.trans s3) _ _ hQ.1
  have hshw := (shw_sum (k := k) (n := n) (u := u) (r0 := r0) (r1 := r1) (r2 := r2) b0 l0).mpr ⟨kn, u0, nn⟩
  have bq0 := hQ9.2.1
  have bq1 := hQ9.2.2.1
  have bq2 := hQ9.2.2.2.1
  have W0 := hQ9.2.2.2.2.1
  have bW := hQ9.2.2.2.2.2
  have s13x := (s1.trans s2).trans s3
  have hcl3 := hcl.mono s3
  generalize r0 * b + u * jA k n * low = A0 at *
  generalize r1 * b + u * jB k n * low = B0 at *
  generalize r2 * b + u * jC k * low = C0 at *
  generalize low * b = W at *
  try dsimp only [List.set]
  walk_at "zz"
  refine ⟨q, _, rfl, SqL.of hq3, fun c3 hc3 => ?_⟩
  have s4 : Same H3 (upd H3 c3 (.lst [V.int A0, V.int B0, V.int C0])) := Same.new hc3
  have e4 : (upd H3 c3 (.lst [V.int A0, V.int B0, V.int C0])) c3 = some (.lst ([A0, B0, C0].map V.int)) := upd_same
  rw [show cutV [V.int A0, V.int B0, V.int C0, V.int W] none (some (3 : Int)) = [V.int A0, V.int B0, V.int C0] from cut_hi (n := 3)]
  generalize (upd H3 c3 (.lst [V.int A0, V.int B0, V.int C0])) = H4 at *
  have hq4 := s4 _ _ hq3
  try dsimp only [List.set]
  walk_at "zz"
  refine u_mkP e4 (Nat.le_of_ble_eq_true rfl) (by omega) (bW.up (by decide)) (fun po H5 lp op s5 hIp hLp => ?_)
  try dsimp only [List.set]
  walk_at "zz"
  refine u_mkV1 (B := 20) (Bits.up (Bits.small (n := 1) (by decide) (by decide)) (by decide)) (by decide) (fun v1 H6 s6 hv1 => ?_)
  try dsimp only [List.set]
  walk_at "zz"
  refine u_mkV1 (B := 20) (n := n) (bi (by omega) (by omega)) (by decide) (fun v2 H7 s7 hv2 => ?_)
  try dsimp only [List.set]
  walk_at "zz"
  intro xp dxp hxp hdxp nep
  refine ⟨_, _, _, rfl, xp, dxp, v1, v2, H7, _, _, rfl, rfl, rfl, rfl, hxp, hdxp, nep, hv1.mono s7, hv2, S66.c_le.mpr (show (1 : Int) ≤ n by omega), fun H8 fp s8 ep => ⟨rfl, ?_⟩⟩
  try dsimp only [List.set]
  walk_at "zz"
  intro xl dxl hxl hdxl nel
  have hIp8 := ((hIp.mono s6).mono s7).mono s8
  refine ⟨_, _, _, rfl, xl, dxl, po, H8, lp, op, rfl, rfl, rfl, hxl, hdxl, nel, hIp8, (by have := hLp.len; exact Nat.le_trans this (Nat.le_of_ble_eq_true rfl)), fun H9 fl s9 el => ⟨rfl, ?_⟩⟩
  try dsimp only [List.set]
  walk_at "zz"
  refine z_min2 ?_
  try dsimp only [List.set]
  walk_at "zz"
  refine u_mkV1 (B := 20) (Bits.up (Bits.small (n := 1) (by decide) (by decide)) (by decide)) (by decide) (fun v3 H10 s10 hv3 => ?_)
  try dsimp only [List.set]
  walk_at "zz"
  rename_i x10 H11 hx10 s11 e11
  refine z_rep1 e11 (by decide) (by decide) (fun p12 H12 hp12 s12 e12 => ?_)
  try dsimp only [List.set]
  walk_at "zz"
  intro xf dxf hxf hdxf nef
  refine ⟨_, _, _, rfl, xf, dxf, p12, H12, min n 24, _, rfl, rfl, rfl, rfl, hxf, hdxf, nef, e12, (by rw [List.length_replicate]; rfl), by omega, by omega, fun H13 ff s13 ef => ⟨rfl, ?_⟩⟩
  have sA := ((s4.trans s5).trans s6).trans (s7.trans s8)
  have sB := ((s9.trans s10).trans s11).trans (s12.trans s13)
  have hsixB := (hsix.mono sA).mono sB
  have hVB := (hV.mono sA).mono sB
  have hQPB := (hQP.mono sA).mono sB
  have hclB := (hcl3.mono sA).mono sB
  have elB := s13 _ _ (s12 _ _ (s11 _ _ (s10 _ _ el)))
  try dsimp only [List.set]
  walk_at "zz"
  refine z_foR (by decide) (by decide) (fun i σ' H' => ∃ y11 : Option V, σ' = [some (.int n), some (.int k), some (.ref p), some (.ref r), some (.int low), some (.ref q), some (.ref cl), some (.ref s), some (.ref po), some (.ref xl), some (.ref xf), y11] ∧ Same H13 H') ⟨_, rfl, fun _ _ h => h⟩ ?_ ?_
  · rintro i σ' H' hi ⟨y11, rfl, sh⟩
    try dsimp only [List.set]
    walk_at "zz"
    refine u_say (.inl (.inr (.inl ⟨k, wv, v, dxl, "LineClaim", fl, hsixB.mono sh, .inl rfl, sh _ _ elB, rfl⟩))) (fun HA sHA => ?_)
    try dsimp only [List.set]
    walk_at "zz"
    refine u_say (.inl (.inl ⟨k, n, wv, v, _, _, _, _, _, _, _, 390, (hsixB.mono sh).mono sHA, (hVB.mono sh).mono sHA, (hQPB.mono sh).mono sHA, (hclB.mono sh).mono sHA, k0, by omega, n1, n2, by decide, by decide, due_t hshw⟩)) (fun HC sHC => ?_)
    try dsimp only [List.set]
    walk_at "zz"
    refine u_say (.inl (.inr (.inl ⟨k, wv, v, dxf, "FourClaim", ff, ((hsixB.mono sh).mono sHA).mono sHC, .inr rfl, sHC _ _ (sHA _ _ (sh _ _ ef)), rfl⟩))) (fun HD sHD => ?_)
    try dsimp only [List.set]
    walk_at "zz"
    exact ⟨_, rfl, ((sh.trans sHA).trans sHC).trans sHD⟩
  rintro σ' HE ⟨y11, rfl, sE⟩
  try dsimp only [List.set]
  walk_at "zz"
  rename_i x20 HF hx20 sF eF
  refine u_mkP1 (ns := [1]) eF (Nat.le_of_ble_eq_true rfl) (fun pv HG lsv ov hpv sG hIv hLv => ?_)
  try dsimp only [List.set]
  walk_at "zz"
  rename_i x21 HI hx21 sI eI
  intro xc dxc hxc hdxc nec
  refine ⟨_, _, _, _, rfl, xc, dxc, x21, HI, rfl, rfl, rfl, hxc, hdxc, nec, eI, fun HJ fc sJ ej lj => ⟨rfl, ?_⟩⟩
  try dsimp only [List.set]
  walk_at "zz"
  refine u_say (.inr ⟨n, _, _, _, 390, dxc, fc, ej, ((((hclB.mono sE).mono sF).mono sG).mono sI).mono sJ, lj, rfl⟩) (fun HK sK => fin _ ?_)
  exact ((((((s13x.trans sA).trans sB).trans sE).trans sF).trans sG).trans (sI.trans sJ)).trans sK
theorem c_law_other_sorts (L : Lw K mg) : Cal P w K mg base 12 "_law_other_sorts" (sp5 (fs_lrs K)) [] := by
  obtain ⟨fd, F⟩ := L.d_law_other_sorts
  exact ⟨⟨_, fd, ["n", "k", "part", "rest", "low"], [], ok_law_other_sorts L F, L.g_law_other_sorts, F.kp, F.bindsN (fun _ _ _ _ _ _ us hl => match us, hl with | [_, _, _, _, _], _ => rfl), .nil⟩⟩
theorem ok_SixPaperD_initR (L : Lw K mg) {fd : FuncData} (F : FunD K "__init__" "SixPaper.__init__" (defArgs s_SixPaperD_initD) (defBody s_SixPaperD_initD) (defScope s_SixPaperD_initD) (df_SixPaperD_initD.dvs K) (df_SixPaperD_initD.kws K) (He.fAd K ("SixPaper", some "__init__")) fd) : FnOk P w K mg base (L2N.CX P w) 4 (He.fAd K ("SixPaper", some "__init__")) fd (["self", "block", "amount", "rest"] : List Str) (sp4 (fs_spraise K)) := by
  refine FunD.ok F sc_SixPaperD_initD len4 (fun cdv A outer s H vs Q E hr h => ?_)
  obtain ⟨a, b, c, d, rfl, h⟩ := h
  refine ⟨_, (pss_cons (ps_expr (pe_c (c_check_number (K := K) L) hr (by decide) (L2N.takes_of rfl rfl rfl rfl) (pa_cons (pv 1) (pa_cons pe_int (pa_cons pe_int pa_nil)))))
    (pss_cons (ps_fld (pv 0) (pv 1) rfl)
    (pss_cons (ps_fld (pv 0) (pv 2) rfl)
    (pss_one (ps_fld (pv 0) (pv 3) rfl))))), ?_⟩
  obtain ⟨x, dx, H0, n, rfl, rfl, rfl, hx, hdx, ne, bad, kx⟩ := h
  have sm : Same H0 (upd (upd H0 dx (.own x)) x (.ins (He.ga K "SixPaper") dx [])) := (Same.put (Same.new hdx) hx)
  have hxx : upd (upd H0 dx (.own x)) x (.ins (He.ga K "SixPaper") dx []) x = some (.ins (He.ga K "SixPaper") dx []) := upd_same
  generalize upd (upd H0 dx (.own x)) x (.ins (He.ga K "SixPaper") dx []) = H at *
  walk_at "zz"
  exact ⟨_, _, _, rfl, n, 0, rfl, rfl, .inr ⟨200, rfl⟩, fun z => absurd ⟨z.1, z.2 200 rfl⟩ bad, fun z d H' s' hd => kx d H' (sm.trans s') hd⟩
theorem c_SixPaperD_initR (L : Lw K mg) : Mak P w K mg base 4 "SixPaper" (He.ga K "SixPaper") (sp4 (fs_spraise K)) [] := by
  obtain ⟨fd, F⟩ := L.d_SixPaperD_initD
  exact ⟨⟨_, fd, ["self", "block", "amount", "rest"], [], L.mk_SixPaper, ok_SixPaperD_initR L F, L.g_SixPaper, F.bindsN (fun _ _ _ _ _ _ us hl => match us, hl with | [_, _, _, _], _ => rfl), .nil⟩⟩
theorem ok_law_refused (L : Lw K mg) {fd : FuncData} (F : FunD K "_law_refused" "_law_refused" (defArgs s_law_refused) (defBody s_law_refused) (defScope s_law_refused) (df_law_refused.dvs K) (df_law_refused.kws K) (He.fAd K ("_law_refused", none)) fd) : FnOk P w K mg base (L2N.CX P w) 6 (He.fAd K ("_law_refused", none)) fd (["block"] : List Str) (sp1 fs_lref) := by
  refine FunD.ok F sc_law_refused len1 (fun cdv A outer s H vs Q E hr h => ?_)
  obtain ⟨x1, rfl, h⟩ := h
  refine ⟨_, (pss_cons (L2N.ps_try_as (i := 1) rfl rfl sc_law_refused.nd rfl rfl ⟨rfl, by decide, Or.inl L.g_OutOfBounds⟩ (L2N.takes_of rfl rfl rfl rfl)
    (fun W pn xe tk po => (pss_one (ps_expr (pe_mk (c_SixPaperD_initR (K := K) L) hr (by decide) tk (pa_cons (pv 0) (pa_cons (pe_mk (c1_RatioD_initD (K := K) L) hr (by decide) tk (pa_cons pe_int pa_nil)) (pa_cons (pe_mk (c1_PolyD_initD (K := K) L) hr (by decide) tk (pa_cons (pe_lst (pa_cons pe_int pa_nil)) pa_nil)) pa_nil)))))))
    (fun a oe cls dd pn hz hf => (pss_cons (ps_if (PW.pt (pw_or (pt_val (pe_callB (call_isEx L.ec_OutOfBounds (L2N.Zn.zc hz) hf) (by rfl) L.f_isinstance (by decide +kernel) (pa_cons (pv 1) (pa_cons (pe_cls L.g_BadSize) pa_nil)))) (pw_or1 (pt_not (pt_val (pe_callB (call_isEx L.ec_OutOfBounds (L2N.Zn.zc hz) hf) (by rfl) L.f_isinstance (by decide +kernel) (pa_cons (pv 1) (pa_cons (pe_cls L.g_NoughtError) pa_nil)))))))) (pss_one (ps_ret pe_bl)) pss_nil)
    (pss_one (ps_ret (pe_and (pe_ch (ch_law_whole (K := K) L) (room_suite hr _) (by decide) (hot_suite hz hf) (pa_cons (pe_xf L.xf_OutOfBounds L.na_OutOfBounds_value (L2N.Zn.zc hz) hf (pv 1)) pa_nil)) (pe_one (pe_cmpR op_eq (pe_xf L.xf_OutOfBounds L.na_OutOfBounds_value (L2N.Zn.zc hz) hf (pv 1)) (pv 0) (nomark _)))))))))
    (pss_one (ps_ret pe_bl))), ?_⟩
  rw [show L2.start (["block", "e"] : List Str) [x1] = [some x1, none] from rfl]
  obtain ⟨n, rfl, bad, fin⟩ := h
  try dsimp only [List.set]
  walk_at "zz"
  refine u_mkF1 (fun v1 H1 s1 h1 => ?_)
  try dsimp only [List.set]
  walk_at "zz"
  rename_i x3 H2 hx3 s2 e3
  refine u_mkP1 (ns := [1]) e3 (Nat.le_of_ble_eq_true rfl) (fun pv H3 ls o hpv s3 hI hLw => ?_)
  try dsimp only [List.set]
  walk_at "zz"
  intro x dx hx hdx ne
  refine ⟨_, _, _, _, rfl, x, dx, H3, n, rfl, rfl, rfl, hx, hdx, ne, bad, fun e H4 s4 he => ?_⟩
  refine z_as L.xm_OutOfBounds_OutOfBounds (fun a ha => ?_)
  try dsimp only [List.set]
  walk_at "zz"
  refine z_isX he L.kt_OutOfBounds_BadSize ?_
  try dsimp only [List.set]
  walk_at "zz"
  refine z_isX he L.kt_OutOfBounds_NoughtError ?_
  try dsimp only [List.set]
  walk_at "zz"
  refine z_xf he lkA ?_
  try dsimp only [List.set]
  walk_at "zz"
  refine z_xf he lkA ?_
  try dsimp only [List.set]
  walk_at "zz"
  rw [decide_eq_true rfl]
  exact fin _ (((s1.trans s2).trans s3).trans s4)
theorem c_law_refused (L : Lw K mg) : Cal P w K mg base 6 "_law_refused" (sp1 fs_lref) [] := by
  obtain ⟨fd, F⟩ := L.d_law_refused
  exact ⟨⟨_, fd, ["block"], [], ok_law_refused L F, L.g_law_refused, F.kp, F.bindsN (fun _ _ _ _ _ _ us hl => match us, hl with | [_], _ => rfl), .nil⟩⟩
end
end T
set_option maxHeartbeats 4000000
namespace T
open PySem PySem.Spec PyProof.Rows L2 Z
open S31 (cf)
open S30
theorem z_p60 {H : Hp} {Q : VK} (q : Q (.int 1000000000000000000000000000000000000000000000000000000000000) H) : zPow (.int 10) (.int 60) H Q := z_pow ⟨by decide, by decide, by decide⟩ q
theorem z_p30 {H : Hp} {Q : VK} (q : Q (.int 1000000000000000000000000000000) H) : zPow (.int 10) (.int 30) H Q := z_pow ⟨by decide, by decide, by decide⟩ q
theorem at4s {s : Int} (h0 : 0 ≤ s) (h1 : s < 4) : ∃ n : Int, 1 ≤ n ∧ n ≤ 1000000000000000000000000000000000000000000000000000000000000 ∧ atI [V.int 1, V.int 1, V.int 1000000, V.int 1000000000000000000000000000000000000000000000000000000000000] s = some (.int n) := by
  have h : s = 0 ∨ s = 1 ∨ s = 2 ∨ s = 3 := by omega
  rcases h with rfl | rfl | rfl | rfl <;> exact ⟨_, by decide, by decide, rfl⟩
theorem at3s {s : Int} (h0 : 0 ≤ s) (h1 : s < 3) : ∃ n : Int, 1 ≤ n ∧ n ≤ 1000000000000000000000000000000 ∧ atI [V.int 1, V.int 1000, V.int 1000000000000000000000000000000] s = some (.int n) := by
  have h : s = 0 ∨ s = 1 ∨ s = 2 := by omega
  rcases h with rfl | rfl | rfl <;> exact ⟨_, by decide, by decide, rfl⟩
theorem b200 {n : Int} (h0 : 1 ≤ n) (h1 : n ≤ 1000000000000000000000000000000000000000000000000000000000000) : Bits 200 n := by
  unfold Bits
  have : (2 : Nat) ^ 200 = 1606938044258990275541962092341162602522202993782792835301376 := by decide
  omega
theorem b100 {n : Int} (h0 : 1 ≤ n) (h1 : n ≤ 1000000000000000000000000000000) : Bits 100 n := by
  unfold Bits
  have : (2 : Nat) ^ 100 = 1267650600228229401496703205376 := by decide
  omega
theorem rest_nn {w s r v low : Int} (l0 : 0 < low) (w0 : 0 ≤ w) (v0 : 0 ≤ v) (t : Rat) : 0 ≤ S66.rv (((w * r * r + v : Int) : Rat) / low) (((-2 * w * s * r : Int) : Rat) / low) (((w * s * s : Int) : Rat) / low) t := by
  refine rv_nn l0 ?_
  rw [Rat.intCast_add]
  simp only [Rat.intCast_mul]
  have e5 : ((-2 : Int) : Rat) = -2 := rfl
  rw [e5]
  have p : (0 : Rat) ≤ w := S66.c_le.mpr (show 0 ≤ w by omega)
  have p2 : (0 : Rat) ≤ v := S66.c_le.mpr (show 0 ≤ v by omega)
  have := Rat.mul_nonneg p (sq_nn ((s : Rat) * t - r))
  grind
local macro_rules | `(tactic| walk_at "up") => `(tactic| first
  | assumption
  | (refine' IsR.mono (by assumption) ?zup; case zup => walk_at "up")
  | (refine' IsE.mono (by assumption) ?zup; case zup => walk_at "up")
  | (refine' Same.at (by assumption) ?zup; case zup => walk_at "up")
  | (refine' SqL.of ?zup; case zup => walk_at "up")
  | (refine' L2.Same.seq (by assumption) ?zup; case zup => walk_at "up"))
local macro_rules | `(tactic| walk_at "z") => `(tactic| first
  | ((with_reducible refine' z_var ?zvh ?_); (case zvh => exact rfl))
  | with_reducible refine z_c ?_
  | with_reducible refine z_cons ?_
  | with_reducible refine z_nil ?_
  | with_reducible refine z_op ?_
  | with_reducible refine z_nx ?_
  | with_reducible refine z_seq ?_
  | with_reducible refine z_asg ?_
  | with_reducible refine z_asgG ?_
  | with_reducible refine z_call ?_
  | with_reducible refine z_sq0 ?_
  | with_reducible refine z_sq1 ?_
  | with_reducible refine z_ifS ?_
  | with_reducible refine z_test ?_
  | with_reducible refine z_tb ?_
  | with_reducible refine z_bl ?_
  | with_reducible refine z_blI ?_
  | with_reducible refine z_ret ?_
  | with_reducible refine z_rt ?_
  | with_reducible refine z_T ?_
  | with_reducible refine z_F ?_
  | with_reducible refine z_add ?_
  | with_reducible refine z_sub ?_
  | with_reducible refine z_neg ?_
  | with_reducible refine z_un ?_
  | with_reducible refine z_eqI ?_
  | with_reducible refine z_neI ?_
  | with_reducible refine z_lt ?_
  | with_reducible refine z_le ?_
  | with_reducible refine z_gt ?_
  | with_reducible refine z_ge ?_
  | with_reducible refine z_not ?_
  | with_reducible refine z_and ?_
  | with_reducible refine z_or ?_
  | with_reducible refine z_andV ?_
  | with_reducible refine z_orV ?_
  | with_reducible refine z_notV ?_
  | with_reducible refine z_if ?_
  | with_reducible refine z_cb ?_
  | with_reducible refine z_int1 ?_
  | with_reducible refine z_intb ?_
  | with_reducible refine z_abs ?_
  | with_reducible refine z_gcd ?_
  | with_reducible refine z_isi_ii ?_
  | with_reducible refine z_isi_ib ?_
  | with_reducible refine z_next ?_
  | with_reducible refine z_drop ?_
  | with_reducible refine z_par ?_
  | with_reducible refine z_par2 ?_
  | with_reducible refine z_tupN ?_
  | with_reducible refine z_lstN ?_
  | ((with_reducible refine' z_nt ?zl1 ?_); (case zl1 => exact Nat.le_of_ble_eq_true rfl); intro p H' hp hs he)
  | ((with_reducible refine' z_gtup ?zl1 ?zl2 ?_); (case zl1 => walk_at "up"); (case zl2 => exact rfl))
  | with_reducible refine z_bk ?_
  | with_reducible refine z_ct ?_
  | with_reducible refine z_break ?_
  | with_reducible refine z_cont ?_
  | with_reducible refine z_retN ?_
  | with_reducible refine z_nn ?_
  | with_reducible refine z_mk ?_
  | with_reducible refine z_gn ?_
  | with_reducible refine z_gcons ?_
  | with_reducible refine z_gnil ?_
  | with_reducible refine z_mt ?_
  | with_reducible refine z_mko ?_
  | with_reducible refine z_for2 ?_
  | with_reducible refine z_ownI ?_
  | ((with_reducible refine' z_lenL ?zl1 ?_); (case zl1 => walk_at "up"))
  | ((with_reducible refine' z_ixT ?zl1 ?zl2 ?_); (case zl1 => walk_at "up"); (case zl2 => exact rfl))
  | ((with_reducible refine' z_mulL ?zl1 ?zl2 ?_); (case zl1 => omega); (case zl2 => omega))
  | ((with_reducible refine' z_mulR ?zl1 ?zl2 ?_); (case zl1 => omega); (case zl2 => omega))
  | ((with_reducible refine' z_divS ?zl1 ?zl2 ?_); (case zl1 => omega); (case zl2 => omega))
  | ((with_reducible refine' z_mulW ?zl1 ?zl2 ?zl3 ?zl4 ?_); (case zl1 => omega); (case zl2 => omega); (case zl3 => omega); (case zl4 => omega))
  | ((with_reducible refine' z_divW ?zl1 ?zl2 ?_); (case zl1 => omega); (case zl2 => omega)))
local macro_rules | `(tactic| walk_at "zz") => `(tactic| repeat (walk_at "z"))
local macro_rules | `(tactic| walk_at "z") => `(tactic| with_reducible refine z_lstN ?_)
local macro_rules | `(tactic| walk_at "z") => `(tactic| with_reducible refine z_p6 ?_)
local macro_rules | `(tactic| walk_at "z") => `(tactic| with_reducible refine z_p12 ?_)
local macro_rules | `(tactic| walk_at "z") => `(tactic| with_reducible refine z_p13 ?_)
local macro_rules | `(tactic| walk_at "z") => `(tactic| with_reducible refine z_calln ?_)
local macro_rules | `(tactic| walk_at "z") => `(tactic| with_reducible refine z_xfS ?_)
local macro_rules | `(tactic| walk_at "z") => `(tactic| with_reducible refine z_lcS ?_)
local macro_rules | `(tactic| walk_at "z") => `(tactic| with_reducible refine z_lcRS ?_)
local macro_rules | `(tactic| walk_at "z") => `(tactic| with_reducible refine z_lcZS ?_)
local macro_rules | `(tactic| walk_at "z") => `(tactic| with_reducible refine z_foS ?_)
local macro_rules | `(tactic| walk_at "z") => `(tactic| with_reducible refine z_for1 ?_)
local macro_rules | `(tactic| walk_at "z") => `(tactic| with_reducible refine z_tsl ?_)
local macro_rules | `(tactic| walk_at "z") => `(tactic| with_reducible refine z_np ?_)
local macro_rules | `(tactic| walk_at "z") => `(tactic| with_reducible refine z_pt ?_)
local macro_rules | `(tactic| walk_at "z") => `(tactic| with_reducible refine z_pti ?_)
local macro_rules | `(tactic| walk_at "z") => `(tactic| with_reducible refine z_catI ?_)
local macro_rules | `(tactic| walk_at "z") => `(tactic| with_reducible refine z_isNI ?_)
local macro_rules | `(tactic| walk_at "z") => `(tactic| with_reducible refine z_isNN ?_)
local macro_rules | `(tactic| walk_at "z") => `(tactic| with_reducible refine z_notNI ?_)
local macro_rules | `(tactic| walk_at "z") => `(tactic| with_reducible refine z_notNN ?_)
local macro_rules | `(tactic| walk_at "z") => `(tactic| with_reducible refine z_gsub ?_)
local macro_rules | `(tactic| walk_at "z") => `(tactic| with_reducible refine z_isNb ?_)
local macro_rules | `(tactic| walk_at "z") => `(tactic| with_reducible refine z_notNb ?_)
local macro_rules | `(tactic| walk_at "z") => `(tactic| ((with_reducible refine' z_nlR ?zl1 ?_); (case zl1 => exact Nat.le_of_ble_eq_true rfl); intro p H' hp hs he))
local macro_rules | `(tactic| walk_at "z") => `(tactic| ((with_reducible refine' z_repR ?zl1 ?zl2 ?_); (case zl1 => omega); (case zl2 => omega)))
local macro_rules | `(tactic| walk_at "z") => `(tactic| ((with_reducible refine' z_repL ?zl1 ?zl2 ?_); (case zl1 => omega); (case zl2 => omega)))
local macro_rules | `(tactic| walk_at "z") => `(tactic| ((with_reducible refine' z_lenLst ?zl1 ?_); (case zl1 => walk_at "up")))
local macro_rules | `(tactic| walk_at "z") => `(tactic| ((with_reducible refine' z_cat ?zl1 ?zl2 ?zl3 ?_); (case zl1 => walk_at "up"); (case zl2 => walk_at "up"); (case zl3 => (simp only [List.length_map, List.length_cons, List.length_nil, List.length_append, List.length_replicate]; omega)); intro p H' hp hs he))
local macro_rules | `(tactic| walk_at "z") => `(tactic| with_reducible refine z_sfl ?_)
local macro_rules | `(tactic| walk_at "z") => `(tactic| with_reducible refine z_lcES ?_)
local macro_rules | `(tactic| walk_at "z") => `(tactic| with_reducible refine z_lcMS ?_)
local macro_rules | `(tactic| walk_at "z") => `(tactic| with_reducible refine z_foES ?_)
local macro_rules | `(tactic| walk_at "z") => `(tactic| with_reducible refine z_fo3S ?_)
local macro_rules | `(tactic| walk_at "z") => `(tactic| with_reducible refine z_sta ?_)
local macro_rules | `(tactic| walk_at "z") => `(tactic| with_reducible refine z_sta1 ?_)
local macro_rules | `(tactic| walk_at "z") => `(tactic| with_reducible refine z_lcTS ?_)
local macro_rules | `(tactic| walk_at "z") => `(tactic| with_reducible refine z_foTS ?_)
local macro_rules | `(tactic| walk_at "z") => `(tactic| with_reducible refine z_revTS ?_)
local macro_rules | `(tactic| walk_at "z") => `(tactic| with_reducible refine z_max2 ?_)
local macro_rules | `(tactic| walk_at "z") => `(tactic| with_reducible refine z_fldS ?_)
local macro_rules | `(tactic| walk_at "z") => `(tactic| ((with_reducible refine' z_fdt ?zc1 ?zc2 ?zl2 ?_); (case zc1 => exact Lw.cl_Ratio (by assumption)); (case zc2 => exact Lw.na_Ratio_top (by assumption)); (case zl2 => walk_at "up")))
local macro_rules | `(tactic| walk_at "z") => `(tactic| ((with_reducible refine' z_fdb ?zc1 ?zc2 ?zl2 ?_); (case zc1 => exact Lw.cl_Ratio (by assumption)); (case zc2 => exact Lw.na_Ratio_bottom (by assumption)); (case zl2 => walk_at "up")))
local macro_rules | `(tactic| walk_at "z") => `(tactic| ((with_reducible refine' z_fldt ?zc1 ?zc2 ?zl1 ?zl2 ?_); (case zc1 => exact Lw.cl_Ratio (by assumption)); (case zc2 => exact Lw.na_Ratio_top (by assumption)); (case zl1 => exact rfl); (case zl2 => walk_at "up")))
local macro_rules | `(tactic| walk_at "z") => `(tactic| ((with_reducible refine' z_fldb ?zc1 ?zc2 ?zl1 ?zl2 ?_); (case zc1 => exact Lw.cl_Ratio (by assumption)); (case zc2 => exact Lw.na_Ratio_bottom (by assumption)); (case zl1 => exact rfl); (case zl2 => walk_at "up")))
local macro_rules | `(tactic| walk_at "z") => `(tactic| ((with_reducible refine' z_fldG ?zc1 ?zc2 ?zl0 ?zl1 ?zl2 ?_); (case zc1 => exact Lw.cl_Poly (by assumption)); (case zc2 => exact Lw.na_Poly_numbers (by assumption)); (case zl0 => exact rfl); (case zl1 => walk_at "up"); (case zl2 => exact lkA)))
local macro_rules | `(tactic| walk_at "z") => `(tactic| ((with_reducible refine' z_fldG ?zc1 ?zc2 ?zl0 ?zl1 ?zl2 ?_); (case zc1 => exact Lw.cl_Poly (by assumption)); (case zc2 => exact Lw.na_Poly_over (by assumption)); (case zl0 => exact rfl); (case zl1 => walk_at "up"); (case zl2 => exact lkO)))
local macro_rules | `(tactic| walk_at "z") => `(tactic| ((with_reducible refine' z_fldG ?zc1 ?zc2 ?zl0 ?zl1 ?zl2 ?_); (case zc1 => exact Lw.cl_Poly (by assumption)); (case zc2 => exact Lw.na_Poly_degree (by assumption)); (case zl0 => exact rfl); (case zl1 => walk_at "up"); (case zl2 => exact lkD)))
local macro_rules | `(tactic| walk_at "z") => `(tactic| ((with_reducible refine' z_glst ?zl1 ?zl2 ?_); (case zl1 => walk_at "up"); (case zl2 => exact rfl)))
local macro_rules | `(tactic| walk_at "z") => `(tactic| ((with_reducible refine' z_ixLst ?zl1 ?zl2 ?_); (case zl1 => walk_at "up"); (case zl2 => exact rfl)))
local macro_rules | `(tactic| walk_at "z") => `(tactic| ((with_reducible refine' u_mtV ?zl1 ?_); (case zl1 => walk_at "up")))
local macro_rules | `(tactic| walk_at "z") => `(tactic| ((with_reducible refine' u_mtQP ?zl1 ?_); (case zl1 => walk_at "up")))
local macro_rules | `(tactic| walk_at "z") => `(tactic| ((with_reducible refine' z_fldG ?zc1 ?zc2 ?zl0 ?zl1 ?zl2 ?_); (case zc1 => exact Lw.cl_SixClaim (by assumption)); (case zc2 => exact Lw.na_SixClaim_letters (by assumption)); (case zl0 => exact rfl); (case zl1 => walk_at "up"); (case zl2 => exact lkA)))
local macro_rules | `(tactic| walk_at "z") => `(tactic| ((with_reducible refine' z_fldG ?zc1 ?zc2 ?zl0 ?zl1 ?zl2 ?_); (case zc1 => exact Lw.cl_SixClaim (by assumption)); (case zc2 => exact Lw.na_SixClaim_numbers (by assumption)); (case zl0 => exact rfl); (case zl1 => walk_at "up"); (case zl2 => exact (lkB (by decide +kernel) lkA))))
local macro_rules | `(tactic| walk_at "z") => `(tactic| ((with_reducible refine' z_fldG ?zc1 ?zc2 ?zl0 ?zl1 ?zl2 ?_); (case zc1 => exact Lw.cl_SixPaper (by assumption)); (case zc2 => exact Lw.na_SixPaper_block (by assumption)); (case zl0 => exact rfl); (case zl1 => walk_at "up"); (case zl2 => exact lkA)))
local macro_rules | `(tactic| walk_at "z") => `(tactic| ((with_reducible refine' z_fldG ?zc1 ?zc2 ?zl0 ?zl1 ?zl2 ?_); (case zc1 => exact Lw.cl_SixPaper (by assumption)); (case zc2 => exact Lw.na_SixPaper_amount (by assumption)); (case zl0 => exact rfl); (case zl1 => walk_at "up"); (case zl2 => exact (lkB (by decide +kernel) lkA))))
local macro_rules | `(tactic| walk_at "z") => `(tactic| ((with_reducible refine' z_fldG ?zc1 ?zc2 ?zl0 ?zl1 ?zl2 ?_); (case zc1 => exact Lw.cl_SixPaper (by assumption)); (case zc2 => exact Lw.na_SixPaper_rest (by assumption)); (case zl0 => exact rfl); (case zl1 => walk_at "up"); (case zl2 => exact (lkB (by decide +kernel) (lkB (by decide +kernel) lkA)))))
local macro_rules | `(tactic| walk_at "z") => `(tactic| ((with_reducible refine' u_mtSC ?zl1 ?_); (case zl1 => walk_at "up")))
local macro_rules | `(tactic| walk_at "z") => `(tactic| with_reducible refine z_eqB ?_)
local macro_rules | `(tactic| walk_at "z") => `(tactic| with_reducible refine z_isB ?_)
local macro_rules | `(tactic| walk_at "z") => `(tactic| with_reducible refine u_whole1 ?_)
local macro_rules | `(tactic| walk_at "z") => `(tactic| with_reducible refine z_conS ?_)
local macro_rules | `(tactic| walk_at "z") => `(tactic| with_reducible refine z_prpS ?_)
local macro_rules | `(tactic| walk_at "z") => `(tactic| with_reducible refine z_neStr ?_)
local macro_rules | `(tactic| walk_at "z") => `(tactic| with_reducible refine u_flg ?_)
local macro_rules | `(tactic| walk_at "z") => `(tactic| with_reducible refine z_chain ?_)
local macro_rules | `(tactic| walk_at "z") => `(tactic| with_reducible refine z_andV ?_)
local macro_rules | `(tactic| walk_at "z") => `(tactic| with_reducible refine z_orV ?_)
local macro_rules | `(tactic| walk_at "z") => `(tactic| with_reducible refine z_p60 ?_)
local macro_rules | `(tactic| walk_at "z") => `(tactic| with_reducible refine z_p30 ?_)
theorem same62j {H H1 H2 : Hp} (h : Same H1 H2) (e : Same H H1) : Same H H2 := e.trans h
local macro_rules | `(tactic| walk_at "sm") => `(tactic| first
  | assumption
  | exact fun _ _ h => h
  | (refine' same62j (by assumption) ?zsm; case zsm => walk_at "sm"))
local macro_rules | `(tactic| walk_at "up") => `(tactic| first
  | assumption
  | (with_reducible refine' IsR.mono (by assumption) ?zup; case zup => walk_at "up")
  | (with_reducible refine' IsV.mono (by assumption) ?zup; case zup => walk_at "up")
  | (with_reducible refine' IsQ.mono (by assumption) ?zup; case zup => walk_at "up")
  | (with_reducible refine' QP.mono (by assumption) ?zup; case zup => walk_at "up")
  | (with_reducible refine' R3.mono (by assumption) ?zup; case zup => walk_at "up")
  | (with_reducible refine' Same.at (by assumption) ?zup; case zup => walk_at "up")
  | (with_reducible refine' Fr.mono (by assumption) ?zup; case zup => walk_at "up")
  | (with_reducible refine' FS.mono (by assumption) ?zup; case zup => walk_at "up")
  | (with_reducible refine' IsSC.mono (by assumption) ?zup; case zup => walk_at "up")
  | (with_reducible refine' L3.mono (by assumption) ?zup; case zup => walk_at "up")
  | (with_reducible refine' L34.mono (by assumption) ?zup; case zup => walk_at "up")
  | (with_reducible refine' L4.mono (by assumption) ?zup; case zup => walk_at "up")
  | (with_reducible refine' PU.mono (by assumption) ?zup; case zup => walk_at "up")
  | (with_reducible refine' IsPool.mono (by assumption) ?zup; case zup => walk_at "up")
  | (with_reducible refine' IsSix.mono (by assumption) ?zup; case zup => walk_at "up")
  | (with_reducible refine' Says.mono (by assumption) ?zup; case zup => walk_at "up")
  | (refine' And.left ?zup; case zup => assumption)
  | fail)
section
variable {P : Program} {w : World} {K : Frag} {mg : Str → Option Value} {base : Heap}
theorem ok_law (L : Lw K mg) {fd : FuncData} (F : FunD K "law" "law" (defArgs s_law) (defBody s_law) (defScope s_law) (df_law.dvs K) (df_law.kws K) (He.fAd K ("law", none)) fd) : FnOk P w K mg base (L2N.CX P w) 15 (He.fAd K ("law", none)) fd (["script"] : List Str) (sp1 (fs_law K)) := by
  refine FunD.ok F sc_law len1 (fun cdv A outer s H vs Q E hr h => ?_)
  obtain ⟨a, rfl, h⟩ := h
  refine ⟨_, (pss_cons (ps_set (i := 1) sc_law.nd rfl (by first | exact Or.inl rfl | exact Or.inr rfl) (pe_slice (slK rSlL (K := K) rfl sl_list) (pv 0) po_none (po_some pe_int)))
    (pss_cons (ps_set (i := 2) sc_law.nd rfl (by first | exact Or.inl rfl | exact Or.inr rfl) (pe_c (c_law_letters (K := K) L) hr (by decide) (L2N.takes_of rfl rfl rfl rfl) (pa_cons (pv 1) pa_nil)))
    (pss_cons (ps_set (i := 3) sc_law.nd rfl (by first | exact Or.inl rfl | exact Or.inr rfl) (pe_c (c_law_draw (K := K) L) hr (by decide) (L2N.takes_of rfl rfl rfl rfl) (pa_cons (pv 1) (pa_cons pe_int (pa_cons pe_int (pa_cons (pv 2) pa_nil))))))
    (pss_cons (ps_set (i := 4) sc_law.nd rfl (by first | exact Or.inl rfl | exact Or.inr rfl) (pe_lst (pa_cons (pe_c (c_law_draw (K := K) L) hr (by decide) (L2N.takes_of rfl rfl rfl rfl) (pa_cons (pv 1) (pa_cons pe_int (pa_cons pe_int (pa_cons pe_int pa_nil))))) (pa_cons (pe_op o_cat pe_int (pe_c (c_law_draw (K := K) L) hr (by decide) (L2N.takes_of rfl rfl rfl rfl) (pa_cons (pv 1) (pa_cons pe_int (pa_cons pe_int (pa_cons pe_int pa_nil)))))) pa_nil))))
    (pss_cons (ps_set (i := 5) sc_law.nd rfl (by first | exact Or.inl rfl | exact Or.inr rfl) (pe_ix (ix_seqK (K := K) rfl) (pe_lst (pa_cons pe_int (pa_cons pe_int (pa_cons (pe_op o_pow pe_int pe_int) (pa_cons (pe_op o_pow pe_int pe_int) pa_nil))))) (pe_c (c_law_draw (K := K) L) hr (by decide) (L2N.takes_of rfl rfl rfl rfl) (pa_cons (pv 1) (pa_cons pe_int (pa_cons pe_int (pa_cons pe_int pa_nil))))) (fun _ _ => rfl)))
    (pss_cons (ps_set (i := 6) sc_law.nd rfl (by first | exact Or.inl rfl | exact Or.inr rfl) (pe_op o_rep (pv 5) (pe_c (c_law_draw (K := K) L) hr (by decide) (L2N.takes_of rfl rfl rfl rfl) (pa_cons (pv 1) (pa_cons pe_int (pa_cons pe_int (pa_cons pe_int pa_nil)))))))
    (pss_cons (ps_set (i := 7) sc_law.nd rfl (by first | exact Or.inl rfl | exact Or.inr rfl) (pe_c (c_law_draw (K := K) L) hr (by decide) (L2N.takes_of rfl rfl rfl rfl) (pa_cons (pv 1) (pa_cons pe_int (pa_cons pe_int (pa_cons pe_int pa_nil))))))
    (pss_cons (ps_set (i := 8) sc_law.nd rfl (by first | exact Or.inl rfl | exact Or.inr rfl) (pe_op o_sub (pe_c (c_law_draw (K := K) L) hr (by decide) (L2N.takes_of rfl rfl rfl rfl) (pa_cons (pv 1) (pa_cons pe_int (pa_cons pe_int (pa_cons (pe_op o_cat (pe_op o_rep pe_int (pv 2)) pe_int) pa_nil))))) pe_int))
    (pss_cons (ps_set (i := 9) sc_law.nd rfl (by first | exact Or.inl rfl | exact Or.inr rfl) (pe_c (c_law_draw (K := K) L) hr (by decide) (L2N.takes_of rfl rfl rfl rfl) (pa_cons (pv 1) (pa_cons pe_int (pa_cons pe_int (pa_cons pe_int pa_nil))))))
    (pss_cons (ps_set (i := 10) sc_law.nd rfl (by first | exact Or.inl rfl | exact Or.inr rfl) (pe_lst (pa_cons (pe_op o_cat (pe_op o_rep (pe_op o_rep (pv 6) (pv 8)) (pv 8)) (pv 9)) (pa_cons (pe_op o_rep (pe_op o_rep (pe_op o_rep (pe_un o_neg pe_int) (pv 6)) (pv 7)) (pv 8)) (pa_cons (pe_op o_rep (pe_op o_rep (pv 6) (pv 7)) (pv 7)) pa_nil)))))
    (pss_cons (ps_set (i := 11) sc_law.nd rfl (by first | exact Or.inl rfl | exact Or.inr rfl) (pe_op o_cat pe_int (pe_c (c_law_draw (K := K) L) hr (by decide) (L2N.takes_of rfl rfl rfl rfl) (pa_cons (pv 1) (pa_cons pe_int (pa_cons pe_int (pa_cons pe_int pa_nil)))))))
    (pss_cons (ps_if (pt_not (pt_val (pe_c (c_law_built (K := K) L) hr (by decide) (L2N.takes_of rfl rfl rfl rfl) (pa_cons (pv 2) (pa_cons (pv 3) (pa_cons (pv 4) (pa_cons (pv 10) (pa_cons (pv 11) (pa_cons pe_bl (pa_cons pe_bl pa_nil)))))))))) (pss_one (ps_ret pe_bl)) pss_nil)
    (pss_cons (ps_set (i := 12) sc_law.nd rfl (by first | exact Or.inl rfl | exact Or.inr rfl) (pe_op o_cat pe_int (pe_c (c_law_draw (K := K) L) hr (by decide) (L2N.takes_of rfl rfl rfl rfl) (pa_cons (pv 1) (pa_cons pe_int (pa_cons pe_int (pa_cons (pe_op o_sub (pv 2) pe_int) pa_nil)))))))
    (pss_cons (ps_if (pt_not (pt_val (pe_c (c_law_bent_parts (K := K) L) hr (by decide) (L2N.takes_of rfl rfl rfl rfl) (pa_cons (pv 2) (pa_cons (pv 3) (pa_cons (pv 4) (pa_cons (pv 10) (pa_cons (pv 11) (pa_cons (pv 12) pa_nil))))))))) (pss_one (ps_ret pe_bl)) pss_nil)
    (pss_cons (ps_if (pt_not (pt_val (pe_c (c_law_bent_blocks (K := K) L) hr (by decide) (L2N.takes_of rfl rfl rfl rfl) (pa_cons (pv 2) (pa_cons (pv 3) (pa_cons (pv 4) (pa_cons (pv 10) (pa_cons (pv 11) pa_nil)))))))) (pss_one (ps_ret pe_bl)) pss_nil)
    (pss_cons (ps_set (i := 13) sc_law.nd rfl (by first | exact Or.inl rfl | exact Or.inr rfl) (pe_ix (ix_seqK (K := K) rfl) (pe_lst (pa_cons pe_int (pa_cons pe_int (pa_cons (pe_op o_pow pe_int pe_int) pa_nil)))) (pe_c (c_law_draw (K := K) L) hr (by decide) (L2N.takes_of rfl rfl rfl rfl) (pa_cons (pv 1) (pa_cons pe_int (pa_cons pe_int (pa_cons pe_int pa_nil))))) (fun _ _ => rfl)))
    (pss_cons (ps_set (i := 14) sc_law.nd rfl (by first | exact Or.inl rfl | exact Or.inr rfl) (pe_c (c_law_draw (K := K) L) hr (by decide) (L2N.takes_of rfl rfl rfl rfl) (pa_cons (pv 1) (pa_cons pe_int (pa_cons pe_int (pa_cons pe_int pa_nil))))))
    (pss_cons (ps_if (pt_not (pt_val (pe_c (c_law_bent_claims (K := K) L) hr (by decide) (L2N.takes_of rfl rfl rfl rfl) (pa_cons (pv 2) (pa_cons (pv 3) (pa_cons (pv 4) (pa_cons (pv 10) (pa_cons (pv 11) (pa_cons (pv 13) (pa_cons (pv 14) pa_nil)))))))))) (pss_one (ps_ret pe_bl)) pss_nil)
    (pss_cons (ps_if (pt_not (pt_val (pe_c (c_law_long_rests (K := K) L) hr (by decide) (L2N.takes_of rfl rfl rfl rfl) (pa_cons (pv 2) (pa_cons (pv 3) (pa_cons (pv 4) (pa_cons (pv 10) (pa_cons (pv 11) pa_nil)))))))) (pss_one (ps_ret pe_bl)) pss_nil)
    (pss_cons (ps_if (pt_not (pt_val (pe_c (c_law_other_sorts (K := K) L) hr (by decide) (L2N.takes_of rfl rfl rfl rfl) (pa_cons (pv 2) (pa_cons (pv 3) (pa_cons (pv 4) (pa_cons (pv 10) (pa_cons (pv 11) pa_nil)))))))) (pss_one (ps_ret pe_bl)) pss_nil)
    (pss_cons (ps_if (PW.pt (pw_or (pt_not (pt_val (pe_c (c_law_refused (K := K) L) hr (by decide) (L2N.takes_of rfl rfl rfl rfl) (pa_cons (pe_un o_neg pe_int) pa_nil)))) (pw_or1 (pt_not (pt_val (pe_c (c_law_refused (K := K) L) hr (by decide) (L2N.takes_of rfl rfl rfl rfl) (pa_cons pe_int pa_nil))))))) (pss_one (ps_ret pe_bl)) pss_nil)
    (pss_one (ps_ret (pe_and (pe_c (c_law_refused (K := K) L) hr (by decide) (L2N.takes_of rfl rfl rfl rfl) (pa_cons (pe_op o_sub (pe_un o_neg pe_int) (pv 2)) pa_nil)) (pe_one (pe_c (c_law_refused (K := K) L) hr (by decide) (L2N.takes_of rfl rfl rfl rfl) (pa_cons (pe_op o_cat pe_int (pv 2)) pa_nil))))))))))))))))))))))))))), ?_⟩
  rw [show L2.start (["script", "cells", "n", "k", "part", "scale", "w", "s", "r", "v", "rest", "low", "m", "fine", "step"] : List Str) [a] = [some a, none, none, none, none, none, none, none, none, none, none, none, none, none, none] from rfl]
  obtain ⟨p0, ns, rfl, hS, hl, fin⟩ := h
  try dsimp only [List.set]
  walk_at "zz"
  refine ⟨p0, _, rfl, hS, fun c hc => ?_⟩
  rw [cut63 hl]
  have hp : IsPool (upd H c (.lst (ns.map V.int))) c := ⟨ns, upd_same⟩
  generalize upd H c (.lst (ns.map V.int)) = H0 at *
  try dsimp only [List.set]
  walk_at "zz"
  refine ⟨_, rfl, c, rfl, hp, fun n n1 n2 => ?_⟩
  try dsimp only [List.set]
  walk_at "zz"
  refine u_draw hp (by decide) (by decide) (by decide) (by omega) (fun k k0 kn => ?_)
  try dsimp only [List.set]
  walk_at "zz"
  refine u_draw hp (by decide) (by decide) (by decide) (by decide) (fun u u0 u1 => ?_)
  try dsimp only [List.set]
  walk_at "zz"
  refine u_draw hp (by decide) (by decide) (by decide) (by decide) (fun b' b0' b1' => ?_)
  try dsimp only [List.set]
  walk_at "zz"
  rename_i pl H1 hpl s1 e1 pl2 H2 hpl2 s2 e2
  have hp2 := (hp.mono s1).mono s2
  refine u_draw hp2 (by decide) (by decide) (by decide) (by decide) (fun d7 d70 d71 => ?_)
  obtain ⟨sc, sc1, sc2, esc⟩ := at4s d70 d71
  try dsimp only [List.set]
  walk_at "zz"
  refine z_ixLst e2 esc ?_
  try dsimp only [List.set]
  walk_at "zz"
  refine u_draw hp2 (by decide) (by decide) (by decide) (by decide) (fun d4 d40 d41 => ?_)
  try dsimp only [List.set]
  walk_at "zz"
  refine u_draw hp2 (by decide) (by decide) (by decide) (by decide) (fun sv sv0 sv1 => ?_)
  try dsimp only [List.set]
  walk_at "zz"
  refine u_draw hp2 (by decide) (by decide) (by decide) (by omega) (fun rv rv0 rv1 => ?_)
  try dsimp only [List.set]
  walk_at "zz"
  refine u_draw hp2 (by decide) (by decide) (by decide) (by decide) (fun vv vv0 vv1 => ?_)
  try dsimp only [List.set]
  walk_at "zz"
  rename_i pr H3 hpr s3 e3
  have hp3 := hp2.mono s3
  have wv0 : 0 ≤ sc * d4 := Int.mul_nonneg (by omega) d40
  have bwv : Bits 203 (sc * d4) := (b200 sc1 sc2).mul (b := 3) (Bits.small (n := 3) (by show -(8 : Int) < _; omega) (by show _ < (8 : Int); omega))
  generalize sc * d4 = wv at *
  have r1 : -3 < rv - 2 := by omega
  have r2 : rv - 2 < 404 := by omega
  generalize rv - 2 = r at *
  have br : Bits 9 r := small9 (by omega) (by omega)
  have bs : Bits 8 sv := small8 (by omega) (by omega)
  have b0r : Bits 240 (wv * r * r + vv) := (Bits.add (a := 221) ((bwv.mul br).mul br) ((small8 (n := vv) (by omega) (by omega)).up (by decide))).up (by decide)
  have b1r : Bits 240 (-2 * wv * sv * r) := ((((small8 (n := -2) (by decide) (by decide)).mul bwv).mul bs).mul br).up (by decide)
  have b2r : Bits 240 (wv * sv * sv) := ((bwv.mul bs).mul bs).up (by decide)
  have r20 : 0 ≤ wv * sv * sv := Int.mul_nonneg (Int.mul_nonneg wv0 sv0) sv0
  refine u_draw hp3 (by decide) (by decide) (by decide) (by decide) (fun lv lv0 lv1 => ?_)
  have l0 : 0 < 1 + lv := by omega
  have bl : Bits 5 (1 + lv) := Bits.small (n := 5) (by show -(32 : Int) < _; omega) (by show _ < (32 : Int); omega)
  have bb0 : 0 < 1 + b' := by omega
  have hP : PU H3 pl u (1 + b') := ⟨s3 _ _ (s2 _ _ e1), bi (by omega) (by omega), bb0, Bits.small (n := 5) (by show -(32 : Int) < _; omega) (by show _ < (32 : Int); omega)⟩
  have hR : L3 H3 pr (wv * r * r + vv) (-2 * wv * sv * r) (wv * sv * sv) 240 := ⟨e3, b0r, b1r, b2r⟩
  have nn := rest_nn (w := wv) (s := sv) (r := r) (v := vv) l0 wv0 vv0
  try dsimp only [List.set]
  walk_at "zz"
  refine u_bld hP ⟨e3, b0r.up (by decide), b1r.up (by decide), b2r.up (by decide)⟩ k0 (by omega) n1 n2 l0 bl (due_t ⟨kn, u0, nn⟩) (fun H4 s4 => ?_)
  have hp4 := hp3.mono s4
  try dsimp only [List.set]
  walk_at "zz"
  refine u_draw hp4 (by decide) (by decide) (by decide) (by omega) (fun mv mv0 mv1 => ?_)
  try dsimp only [List.set]
  walk_at "zz"
  refine ⟨_, _, _, _, _, _, rfl, n, k, u, 1 + b', _, _, _, 1 + lv, 1 + mv, pl, pr, rfl, rfl, rfl, rfl, rfl, rfl, hP.mono s4, u0, by omega, hR.mono s4, r20, k0, kn, n1, n2, l0, bl, by omega, by omega, fun H5 s5 => ?_⟩
  have s45 := s4.trans s5
  try dsimp only [List.set]
  walk_at "zz"
  refine ⟨_, _, _, _, _, rfl, n, k, u, 1 + b', _, _, _, 1 + lv, pl, pr, rfl, rfl, rfl, rfl, rfl, hP.mono s45, u0, by omega, ⟨s45 _ _ e3, b0r.up (by decide), b1r.up (by decide), b2r.up (by decide)⟩, nn, k0, kn, n1, n2, l0, bl, fun H6 s6 => ?_⟩
  have s46 := s45.trans s6
  try dsimp only [List.set]
  walk_at "zz"
  rename_i pf H7 hpf s7 e7
  have s47 := s46.trans s7
  have hp7 := hp3.mono s47
  refine u_draw hp7 (by decide) (by decide) (by decide) (by decide) (fun d9 d90 d91 => ?_)
  obtain ⟨fine, f1, f2, ef⟩ := at3s d90 d91
  try dsimp only [List.set]
  walk_at "zz"
  refine z_ixLst e7 ef ?_
  try dsimp only [List.set]
  walk_at "zz"
  refine u_draw hp7 (by decide) (by decide) (by decide) (by decide) (fun st st0 st1 => ?_)
  try dsimp only [List.set]
  walk_at "zz"
  refine ⟨_, _, _, _, _, _, _, rfl, n, k, u, 1 + b', _, _, _, 1 + lv, fine, st, pl, pr, rfl, rfl, rfl, rfl, rfl, rfl, rfl, hP.mono s47, u0, by omega, hR.mono s47, nn, k0, kn, n1, n2, l0, bl, by omega, b100 f1 f2, st0, by omega, fun H8 s8 => ?_⟩
  have s48 := s47.trans s8
  try dsimp only [List.set]
  walk_at "zz"
  refine ⟨_, _, _, _, _, rfl, n, k, u, 1 + b', _, _, _, 1 + lv, pl, pr, rfl, rfl, rfl, rfl, rfl, hP.mono s48, u0, by omega, hR.mono s48, nn, k0, kn, n1, n2, l0, bl, fun H9 s9 => ?_⟩
  have s49 := s48.trans s9
  try dsimp only [List.set]
  walk_at "zz"
  refine ⟨_, _, _, _, _, rfl, n, k, u, 1 + b', _, _, _, 1 + lv, pl, pr, rfl, rfl, rfl, rfl, rfl, hP.mono s49, u0, by omega, hR.mono s49, nn, k0, kn, n1, n2, l0, bl, fun H10 s10 => ?_⟩
  try dsimp only [List.set]
  walk_at "zz"
  refine ⟨_, rfl, -1, rfl, by omega, fun H11 s11 => ?_⟩
  try dsimp only [List.set]
  walk_at "zz"
  refine ⟨_, rfl, 201, rfl, by omega, fun H12 s12 => ?_⟩
  try dsimp only [List.set]
  walk_at "zz"
  refine ⟨_, rfl, -1 - n, rfl, by omega, fun H13 s13 => ?_⟩
  try dsimp only [List.set]
  walk_at "zz"
  exact ⟨_, rfl, 200 + n, rfl, by omega, fun H14 s14 => fin _⟩
end
end T
set_option maxHeartbeats 0
open PySem PySem.W PySem.Calls PyProof.Rows
theorem PySem.Challenge.cw_belownought_k62_six_papers_judged_holds : PySem.Challenge.rw_belownought_k62_six_papers_judged.Holds := by
  w_on; o_law
  refine HandSHeadRun.head_imp (r := T.R) (q := view T.R.prog [0, 129]) (H := T.hk) (ob := T.ob) (M := 12000) (loose := T.loose) (d := HandSHeadRun.topDef T.R.prog 129) (kwd := []) T.ob_eq T.run
    (by kernel_rfl) (by kernel_rfl) (by kernel_rfl) (by rfl) (by first | assumption | decide +kernel) (by decide +kernel) ⟨rfl, rfl, rfl, rfl, rfl, by decide +kernel⟩ ?hw ?hc
  case hw => w_witness2
  case hc =>
    refine L2.walk_ofE (l := PySem.Challenge.rw_belownought_k62_six_papers_judged) (n := 63) (k := 15) (x := "script") (CX := L2.CX0) rfl (by decide) (by kernel_rfl) ⟨rfl, by decide, by decide⟩ ?F (fun _ _ _ _ z => z)
    case F =>
      intro w mg fa h Y G hmg0
      obtain ⟨K, KX, c⟩ := Y
      have hmg : mg ("law" : PySem.Str) = some (.ref fa) := by
        have e : (HandSHeadRun.topDef T.R.prog 129).name = ("law" : PySem.Str) := by kernel_rfl
        rw [← e]
        exact hmg0
      have L : T.Lw K mg := ⟨⟨h, KX, G⟩, c⟩
      obtain ⟨fd, F⟩ := L.d_law
      have e := hmg.symm.trans L.g_law
      cases e
      refine ⟨K, fd, Z.sp1 (Z.fs_law K), KX, fun s v => F.bindsA (ps := ["script"]) (fun _ _ _ _ _ _ us hl => match us, hl with | [_], _ => rfl) s [v] rfl, fun H a ns hl _ hS => ⟨_, rfl, a, ns, rfl, hS, hl, fun _ => rfl⟩, fun base _ _ => ?_⟩
      exact Z.law_quiet (T.ok_law L F) (by decide)

