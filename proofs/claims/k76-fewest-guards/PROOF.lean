import PyProof.Rows.All
import Wide.All
import OpenK.AllK
import Wide.FinOn
import KE.KStateDown
import Lean
import HandS.ForMost
import HandS.More
import HandS.Defaults
import HandS.Head0
import HandS.Head1
import HandS.Head2
import HandS.Head3
import HandS.HeadHook4
import HandS.Walk
import HandS.Zip
import HandS.Gcd
import HandS.Wide
import HandS.WideBits
import HandS.IsInst
import HandS.TupAny
import HandS.Star
import HandS.NoneIn
import HandS.Style
import HandS.Conv
import HandS.HeadHook2
import Flt.RightSqrt
import KE.GoesEnum
import HandS.HeadEnd
import PySem.Challenge.RW_spoutlines_k76_whole_fewest_guards
set_option Elab.async false
set_option linter.all false
set_option maxRecDepth 100000
set_option maxHeartbeats 4000000
/-! HDF: the facts of the head (printed by genhead2.py). -/
namespace Sp
open PySem PySem.Spec PyProof.Rows L2
def topS (i : Nat) : Stmt := PySem.Challenge.pw_spoutlines_k76_whole_fewest_guards.main.body.getD i (.Pass ⟨0, 0, 0, 0⟩)
abbrev hR : PySem.W.OpenRow := PySem.W.OpenLaw.row PySem.Challenge.rw_spoutlines_k76_whole_fewest_guards
abbrev hq : Program := PySem.W.view hR.prog [0, 135]
def hN0 : List Str := ["is_whole", "are_wholes", "divisor_of", "is_reduced", "sign_of", "ZERO", "ONE", "is_ratio", "ratio", "ratio_sum", "ratio_less", "ratio_product", "ratio_over", "ratio_back", "is_lower", "lower_of", "higher_of", "is_spot", "is_ahead", "far_of"]
def hN1 : List Str := ["tall_of", "is_nearer", "way_between", "square_root", "plain", "surd_from", "sign_of_one", "sign_of_two", "compared", "lower_surd", "higher_surd", "bent_ratio", "bent_less", "roots_of", "FOUR", "TWO", "MOST_ASKS", "PLACED", "STEEP", "BENT"]
def hN2 : List Str := ["LEAST", "is_asking", "is_steep", "is_least", "line_under", "joined", "roof_bound", "parts_of", "head_parts", "bent_at", "bound_for", "slopes_let", "JetError", "InvalidPlace", "InvalidHead", "NotNearer", "InvalidAsks", "InvalidGuards", "check_head", "check_place"]
def hN3 : List Str := ["check_asks", "NOTHING", "as_surd", "met", "spread", "kept_side", "below_stretch", "Bounds", "slopes_of", "check_target", "with_place", "MOST_GUARDS", "PASSED", "is_guard", "check_guards", "check_guarded", "guards_hold", "is_guarded", "fewest_guards", "_law_well"]
def hN4 : List Str := ["_law_draw", "_law_rounds", "_law_pick", "_law_common", "_law_lean", "_law_ratio", "_law_plus", "_law_less", "_law_times", "_law_over", "_law_sign", "_law_root_sign", "_law_surd_order", "_law_plain", "_law_place", "_law_apart", "_law_high", "_law_steep", "_law_own_head", "_law_line"]
def hN5 : List Str := ["_law_bound", "_law_place_bound", "_law_roof_parts", "_law_parts", "_law_head_part", "_law_span", "_law_pair_span", "_law_spans", "_law_slopes", "_law_size", "_law_part", "_law_jet", "_law_slack", "_law_roof_near", "_law_near_ask", "_law_wet", "_law_guard_asks", "_law_guarded", "_law_guards", "_law_open_world"]
def hN6 : List Str := ["_law_target", "_law_fewest", "_law_right"]
def hN : List Str := hN0 ++ (hN1 ++ (hN2 ++ (hN3 ++ (hN4 ++ (hN5 ++ (hN6))))))
def dD (x : Str) (i : Nat) : He.DefD := ⟨(x, none), x, x, defArgs (topS i), defBody (topS i), defScope (topS i), [], []⟩
def dM (m q : Str) (i j : Nat) : He.DefD := ⟨("Bounds", some m), m, q, defArgs (inClass (topS i) j), defBody (inClass (topS i) j), defScope (inClass (topS i) j), [], []⟩
def hF0 : List He.Fa := [.glo "is_whole", .glo "are_wholes", .glo "divisor_of", .glo "is_reduced", .glo "sign_of", .glo "is_ratio", .glo "ratio", .glo "ratio_sum", .glo "ratio_less", .glo "ratio_product", .glo "ratio_over", .glo "ratio_back", .glo "is_lower", .glo "is_spot", .glo "is_ahead", .glo "far_of", .glo "tall_of", .glo "is_nearer", .glo "way_between", .glo "square_root"]
def hF1 : List He.Fa := [.glo "plain", .glo "surd_from", .glo "sign_of_one", .glo "sign_of_two", .glo "compared", .glo "lower_surd", .glo "higher_surd", .glo "bent_less", .glo "roots_of", .glo "is_asking", .glo "is_steep", .glo "is_least", .glo "line_under", .glo "joined", .glo "roof_bound", .glo "parts_of", .glo "head_parts", .glo "slopes_let", .glo "check_head", .glo "check_place"]
def hF2 : List He.Fa := [.glo "check_asks", .glo "as_surd", .glo "met", .glo "spread", .glo "kept_side", .glo "below_stretch", .glo "slopes_of", .glo "check_target", .glo "with_place", .glo "is_guard", .glo "check_guards", .glo "check_guarded", .glo "guards_hold", .glo "is_guarded", .glo "fewest_guards", .glo "_law_well", .glo "_law_draw", .glo "_law_rounds", .glo "_law_pick", .glo "_law_common"]
def hF3 : List He.Fa := [.glo "_law_lean", .glo "_law_ratio", .glo "_law_plus", .glo "_law_less", .glo "_law_times", .glo "_law_over", .glo "_law_sign", .glo "_law_root_sign", .glo "_law_surd_order", .glo "_law_plain", .glo "_law_place", .glo "_law_apart", .glo "_law_high", .glo "_law_steep", .glo "_law_own_head", .glo "_law_line", .glo "_law_bound", .glo "_law_place_bound", .glo "_law_roof_parts", .glo "_law_parts"]
def hF4 : List He.Fa := [.glo "_law_head_part", .glo "_law_span", .glo "_law_pair_span", .glo "_law_spans", .glo "_law_slopes", .glo "_law_size", .glo "_law_part", .glo "_law_jet", .glo "_law_slack", .glo "_law_roof_near", .glo "_law_near_ask", .glo "_law_wet", .glo "_law_guard_asks", .glo "_law_guarded", .glo "_law_guards", .glo "_law_open_world", .glo "_law_target", .glo "_law_fewest", .glo "_law_right", .glo "law"]
def hF5 : List He.Fa := [.glo "ZERO", .glo "ONE", .glo "FOUR", .glo "TWO", .glo "PLACED", .glo "STEEP", .glo "BENT", .glo "LEAST", .glo "NOTHING", .glo "Bounds", .glo "PASSED", .free "isinstance", .free "int", .free "bool", .free "str", .free "tuple", .free "len", .free "all", .free "range", .free "zip"]
def hF6 : List He.Fa := [.free "enumerate", .free "max", .free "min", .free "abs", .free "divmod", .free "repr", .int "MOST_ASKS" 8, .int "MOST_GUARDS" 8, .cls "Bounds", .noat "Bounds" "lowers", .noat "Bounds" "uppers", .noat "Bounds" "let", .mkr "Bounds", .meth "Bounds" "stretch"]
def hF : List He.Fa := hF0 ++ (hF1 ++ (hF2 ++ (hF3 ++ (hF4 ++ (hF5 ++ (hF6))))))
def hD0 : List He.DefD := [dD "is_whole" 2, dD "are_wholes" 3, dD "divisor_of" 4, dD "is_reduced" 5, dD "sign_of" 6, dD "is_ratio" 10, dD "ratio" 11, dD "ratio_sum" 12, dD "ratio_less" 13, dD "ratio_product" 14, dD "ratio_over" 15, dD "ratio_back" 16, dD "is_lower" 17, dD "is_spot" 21, dD "is_ahead" 22, dD "far_of" 23, dD "tall_of" 24, dD "is_nearer" 25, dD "way_between" 26, dD "square_root" 28]
def hD1 : List He.DefD := [dD "plain" 29, dD "surd_from" 30, dD "sign_of_one" 31, dD "sign_of_two" 32, dD "compared" 33, dD "lower_surd" 34, dD "higher_surd" 35, dD "bent_less" 37, dD "roots_of" 38, dD "is_asking" 47, dD "is_steep" 48, dD "is_least" 49, dD "line_under" 50, dD "joined" 51, dD "roof_bound" 52, dD "parts_of" 53, dD "head_parts" 54, dD "slopes_let" 57, dD "check_head" 66, dD "check_place" 67]
def hD2 : List He.DefD := [dD "check_asks" 68, dD "as_surd" 71, dD "met" 72, dD "spread" 73, dD "kept_side" 74, dD "below_stretch" 75, dD "slopes_of" 77, dD "check_target" 79, dD "with_place" 80, dD "is_guard" 84, dD "check_guards" 85, dD "check_guarded" 86, dD "guards_hold" 87, dD "is_guarded" 88, dD "fewest_guards" 89, dD "_law_well" 91, dD "_law_draw" 92, dD "_law_rounds" 93, dD "_law_pick" 94, dD "_law_common" 95]
def hD3 : List He.DefD := [dD "_law_lean" 96, dD "_law_ratio" 97, dD "_law_plus" 98, dD "_law_less" 99, dD "_law_times" 100, dD "_law_over" 101, dD "_law_sign" 102, dD "_law_root_sign" 103, dD "_law_surd_order" 104, dD "_law_plain" 105, dD "_law_place" 106, dD "_law_apart" 107, dD "_law_high" 108, dD "_law_steep" 109, dD "_law_own_head" 110, dD "_law_line" 111, dD "_law_bound" 112, dD "_law_place_bound" 113, dD "_law_roof_parts" 114, dD "_law_parts" 115]
def hD4 : List He.DefD := [dD "_law_head_part" 116, dD "_law_span" 117, dD "_law_pair_span" 118, dD "_law_spans" 119, dD "_law_slopes" 120, dD "_law_size" 121, dD "_law_part" 122, dD "_law_jet" 123, dD "_law_slack" 124, dD "_law_roof_near" 125, dD "_law_near_ask" 126, dD "_law_wet" 127, dD "_law_guard_asks" 128, dD "_law_guarded" 129, dD "_law_guards" 130, dD "_law_open_world" 131, dD "_law_target" 132, dD "_law_fewest" 133, dD "_law_right" 134, dD "law" 135]
def hD5 : List He.DefD := [dM "__init__" "Bounds.__init__" 76 0, dM "stretch" "Bounds.stretch" 76 1]
def hD : List He.DefD := hD0 ++ (hD1 ++ (hD2 ++ (hD3 ++ (hD4 ++ (hD5)))))
def hvZERO : List He.Dv := [.int 0, .int 1]
def hvONE : List He.Dv := [.int 1, .int 1]
def hvFOUR : List He.Dv := [.int 4, .int 1]
def hvTWO : List He.Dv := [.int 2, .int 1]
def hvPLACED : List He.Dv := [.str "over", .str "under"]
def hvSTEEP : List He.Dv := [.str "dives", .str "climbs"]
def hvBENT : List He.Dv := [.str "quick", .str "slow", .str "low"]
def hvLEAST : List He.Dv := [.str "under", .str "roof", .str "low", .str "dives", .str "slow"]
def hvNOTHING : List He.Dv := [.glo "ZERO", .glo "ZERO", .glo "ZERO"]
def hvP : List (Str × He.Dv) := [("post", .str "over"), ("curtain", .str "under")]
def hE (K : PySem.W.Frag) : List Bool := [He.tupB K "ZERO" hvZERO, He.tupB K "ONE" hvONE, He.tupB K "FOUR" hvFOUR, He.tupB K "TWO" hvTWO, He.tupB K "PLACED" hvPLACED, He.tupB K "STEEP" hvSTEEP, He.tupB K "BENT" hvBENT, He.tupB K "LEAST" hvLEAST, He.tupB K "NOTHING" hvNOTHING, He.valsB K (He.ga K "PASSED") hvP, He.eqO (PySem.W.nsIn K mainGlobals "gcd") (some (some (.builtin "math.gcd"))), He.eqO (PySem.W.nsIn K mainGlobals "isqrt") (some (some (.builtin "math.isqrt")))]
def hX (K : PySem.W.Frag) : Bool := (hE K).all id
def hT : List He.Tab := [(fun K => He.ga K "PASSED", ["post", "curtain"])]
/-- what an object leads to -/
def refsY (o : Obj) : List Addr := match o.data with
  | .dict es _ => es.toList.flatMap fun e => He.refV e.val
  | .func fd => He.refV fd.code
  | .cls cd => cd.ns :: cd.mro.flatMap He.refV
  | _ => []
def lvY (g : Addr → Option Obj) (as : List Addr) : List Addr := as.flatMap fun a => match g a with
  | some o => refsY o
  | none => []
def asY (g : Addr → Option Obj) : List Addr := mainGlobals :: (lvY g [mainGlobals] ++ (lvY g (lvY g [mainGlobals]) ++ (lvY g (lvY g (lvY g [mainGlobals])) ++ lvY g (lvY g (lvY g (lvY g [mainGlobals]))))))
def frY (g : Addr → Option Obj) : PySem.W.Frag := He.frG g (asY g)
theorem frY_in {h : Heap} : (frY h.get?).In h := He.frG_in
abbrev AlY : Type := He.AlT × Bool
def obY (g : Addr → Option Obj) : AlY := (He.obsT hF hD hT (frY g), hX (frY g))
def hk : PySem.W.Hook where
  α := AlY
  obs := fun s => obY s.heap.get?
  val := fun w => (He.valT hD hT w, true)
  says := fun w h => ∃ K : PySem.W.Frag, K.In h ∧ (He.SaysT hF hD hT w K ∧ hX K = true)
  of := fun _ _ e => ⟨_, frY_in, congrArg (fun z : AlY => z.1) e, congrArg (fun z : AlY => z.2) e⟩
  keeps := fun _ _ _ ⟨K, hK, c⟩ k => ⟨K, PySem.W.Frag.In.keeps hK k, c⟩
def hO (s : PySem.W.SharedT) : hk.α := obY (HandSHeadRun.getT s)
theorem hO_eq (s : PySem.W.SharedT) : hO s = hk.obs s.abs := by
  have e : HandSHeadRun.getT s = s.abs.heap.get? := funext (HandSHeadRun.getT_eq s)
  show obY (HandSHeadRun.getT s) = obY s.abs.heap.get?
  rw [e]
end Sp
set_option maxHeartbeats 0
/-! HDR: the head's run, its looks apart from its facts. -/
namespace Sp
open PySem PySem.W PySem.Calls PyProof.Rows
noncomputable abbrev hW (b : Bool) (w : World) : Option (Shared × SharedT) := HandSHeadRun.wholeF (fun p => HandSHeadRun.stepQ (HandSHeadRun.denQ HandSHeadRun.tabQ) p (w.withFollow "special-get-raises" b)) HandSHeadRun.fenceQ 8000 hR.prog
noncomputable abbrev hL (x : Shared × SharedT) := (HandSHeadRun.looksF hR.prog x.1.heap x.2.abs, HandSHeadRun.seenQ hq hN (importedModules hR.prog.main.body) (fun s => xlAt hq [] s && recOk hR.toRowW.records s) x.2.abs)
theorem looks_f (w : World) : (hW false w).map hL = some (true, openGood hq hN) := by
  kernel_rfl
theorem facts_f (w : World) : (hW false w).map (fun x => hO x.2) = some (hk.val (w.withFollow "special-get-raises" false)) := by
  kernel_rfl
theorem looks_t (w : World) : (hW true w).map hL = some (true, openGood hq hN) := by
  kernel_rfl
theorem facts_t (w : World) : (hW true w).map (fun x => hO x.2) = some (hk.val (w.withFollow "special-get-raises" true)) := by
  kernel_rfl
theorem run_join {w : World} {o : Option (Shared × SharedT)} (e : HandSHeadRun.wholeF (fun p => HandSHeadRun.stepQ (HandSHeadRun.denQ HandSHeadRun.tabQ) p w) HandSHeadRun.fenceQ 8000 hR.prog = o) (h1 : o.map hL = some (true, openGood hq hN)) (h2 : o.map (fun x => hO x.2) = some (hk.val w)) : HandSHeadRun.RunEqI hR hq hk hO 8000 hN w := by
  unfold HandSHeadRun.RunEqI
  rw [e]
  cases o with
  | none => cases h1
  | some x =>
    have e1 := Option.some.inj h1
    have e2 := Option.some.inj h2
    obtain ⟨e3, e4⟩ := Prod.mk.inj e1
    show some (_, _, _) = _
    exact congrArg some (Prod.ext e3 (Prod.ext e4 e2))
theorem run_all (w : World) : HandSHeadRun.RunEqI hR hq hk hO 8000 hN w := byRow2 "special-get-raises" (fun w => run_join rfl (looks_f w) (facts_f w)) (fun w => run_join rfl (looks_t w) (facts_t w)) w
end Sp
/-! PURE 0: values without a heap, and the pure reading of each construct. Core Lean alone. -/
namespace Sp

/-- a value; cell n: the n-th list that is being changed; txt a: the text repr(a); ins: the instance of Bounds -/
inductive A where
  | non
  | bl (b : Bool)
  | int (i : Int)
  | str (s : String)
  | tup (xs : List A)
  | lst (xs : List A)
  | cell (n : Nat)
  | txt (a : A)
  | ins (lo up le : A)

abbrev W := List (List A)
abbrev SS := List (Option A)
abbrev GE := SS → W → Option (A × W)
abbrev GA := SS → W → Option (List A × W)
abbrev GT := SS → W → Option (Bool × W)
inductive Out where
  | nx (ss : SS) (w : W)
  | rt (a : A) (w : W)
  | bk (ss : SS) (w : W)
abbrev GS := SS → W → Option Out
/-- what a def does: its arguments, the cells -/
abbrev GF := List A → W → Option (A × W)

/-! ### == of data -/
mutual
@[simp] def A.eqv : A → A → Bool
  | .non, .non => true
  | .int i, .int j => decide (i = j)
  | .str x, .str y => decide (x = y)
  | .lst xs, .lst ys => A.eqvs xs ys
  | .tup xs, .tup ys => A.eqvs xs ys
  | _, _ => false
@[simp] def A.eqvs : List A → List A → Bool
  | [], [] => true
  | x :: xs, y :: ys => A.eqv x y && A.eqvs xs ys
  | _, _ => false
end
/-- the words of the program -/
def words : List String := ["over", "under", "roof", "low", "dives", "climbs", "quick", "slow", "post", "curtain"]
/-! of what == is told: no bools, no cells; not too deep -/
mutual
@[simp] def A.dat : Nat → A → Bool
  | _, .non => true
  | _, .int _ => true
  | _, .str s => decide (s ∈ words)
  | 0, _ => false
  | n + 1, .lst xs => A.dats n xs
  | n + 1, .tup xs => A.dats n xs
  | _, _ => false
@[simp] def A.dats : Nat → List A → Bool
  | _, [] => true
  | n, x :: xs => A.dat n x && A.dats n xs
end
/-! two values are the same, as far as it is needed -/
mutual
@[simp] def A.same : A → A → Bool
  | .non, .non => true
  | .bl b, .bl c => decide (b = c)
  | .int i, .int j => decide (i = j)
  | .tup xs, .tup ys => A.sames xs ys
  | _, _ => false
@[simp] def A.sames : List A → List A → Bool
  | [], [] => true
  | x :: xs, y :: ys => A.same x y && A.sames xs ys
  | _, _ => false
end

/-! ### expressions -/
@[simp] def xVar (i : Nat) : GE := fun ss w => match ss[i]? with
  | some (some a) => some (a, w)
  | _ => none
@[simp] def xC (a : A) : GE := fun _ w => some (a, w)
@[simp] def xOp (f : A → A → Option A) (ga gb : GE) : GE := fun ss w => (ga ss w).bind fun p => (gb ss p.2).bind fun q => (f p.1 q.1).map fun z => (z, q.2)
@[simp] def xUn (f : A → Option A) (ga : GE) : GE := fun ss w => (ga ss w).bind fun p => (f p.1).map fun z => (z, p.2)
@[simp] def xNilA : GA := fun _ w => some ([], w)
@[simp] def xConsA (ga : GE) (gr : GA) : GA := fun ss w => (ga ss w).bind fun p => (gr ss p.2).map fun q => (p.1 :: q.1, q.2)
/-- *e, .. -/
@[simp] def xStarA (ga : GE) (gr : GA) : GA := fun ss w => (ga ss w).bind fun p => match p.1 with
  | .tup xs => (gr ss p.2).map fun q => (xs ++ q.1, q.2)
  | .lst xs => (gr ss p.2).map fun q => (xs ++ q.1, q.2)
  | _ => none
@[simp] def small (n : Nat) : Bool := decide (n ≤ 10000)
@[simp] def xTup (ga : GA) : GE := fun ss w => (ga ss w).bind fun p => if small p.1.length then some (.tup p.1, p.2) else none
@[simp] def xLst (ga : GA) : GE := fun ss w => (ga ss w).bind fun p => if small p.1.length then some (.lst p.1, p.2) else none
/-- f(e, ..), f a built-in by values -/
@[simp] def xBlt (f : List A → Option A) (ga : GA) : GE := fun ss w => (ga ss w).bind fun p => (f p.1).map fun z => (z, p.2)
/-- f(e, ..), f a def -/
@[simp] def xCall (f : GF) (ga : GA) : GE := fun ss w => (ga ss w).bind fun p => f p.1 p.2
@[simp] def xIf (gt : GT) (ga gb : GE) : GE := fun ss w => (gt ss w).bind fun p => if p.1 = true then ga ss p.2 else gb ss p.2
@[simp] def xAndV (ga gb : GE) : GE := fun ss w => (ga ss w).bind fun p => match p.1 with
  | .bl true => gb ss p.2
  | .bl false => some (.bl false, p.2)
  | _ => none
@[simp] def xOrV (ga gb : GE) : GE := fun ss w => (ga ss w).bind fun p => match p.1 with
  | .bl true => some (.bl true, p.2)
  | .bl false => gb ss p.2
  | _ => none
@[simp] def xNotV (ga : GE) : GE := fun ss w => (ga ss w).bind fun p => match p.1 with
  | .bl b => some (.bl (!b), p.2)
  | _ => none

/-! ### tests -/
@[simp] def xT (ga : GE) : GT := fun ss w => (ga ss w).bind fun p => match p.1 with
  | .bl b => some (b, p.2)
  | _ => none
@[simp] def xAnd (ga gb : GT) : GT := fun ss w => (ga ss w).bind fun p => if p.1 = true then gb ss p.2 else some (false, p.2)
@[simp] def xOr (ga gb : GT) : GT := fun ss w => (ga ss w).bind fun p => if p.1 = true then some (true, p.2) else gb ss p.2
@[simp] def xNot (ga : GT) : GT := fun ss w => (ga ss w).map fun p => (!p.1, p.2)

/-! ### operators by values -/
def mulOk (i j : Int) : Bool := decide (i.natAbs.log2 + j.natAbs.log2 < 1000000)
def divOk (j : Int) : Bool := decide (0 < j ∧ j.natAbs.log2 < 9000)
@[simp] def fAdd : A → A → Option A
  | .int i, .int j => some (.int (i + j))
  | .tup xs, .tup ys => if small (xs.length + ys.length) then some (.tup (xs ++ ys)) else none
  | .lst xs, .lst ys => if small (xs.length + ys.length) then some (.lst (xs ++ ys)) else none
  | _, _ => none
@[simp] def fSub : A → A → Option A
  | .int i, .int j => some (.int (i - j))
  | _, _ => none
@[simp] def fMul : A → A → Option A
  | .int i, .int j => if mulOk i j then some (.int (i * j)) else none
  | _, _ => none
def fDiv : A → A → Option A
  | .int i, .int j => if divOk j then some (.int (i / j)) else none
  | _, _ => none
@[simp] def fDivN : A → A → Option A
  | .int i, .int j => if decide (j ≠ 0 ∧ j.natAbs.log2 < 9000) then some (.int (i.fdiv j)) else none
  | _, _ => none
@[simp] def fMod : A → A → Option A
  | .int i, .int j => if decide (0 < j) then some (.int (i % j)) else none
  | _, _ => none
@[simp] def fNeg : A → Option A
  | .int i => some (.int (-i))
  | _ => none
@[simp] def fLt : A → A → Option A
  | .int i, .int j => some (.bl (decide (i < j)))
  | _, _ => none
@[simp] def fLe : A → A → Option A
  | .int i, .int j => some (.bl (decide (i ≤ j)))
  | _, _ => none
@[simp] def fGt : A → A → Option A
  | .int i, .int j => some (.bl (decide (j < i)))
  | _, _ => none
@[simp] def fGe : A → A → Option A
  | .int i, .int j => some (.bl (decide (j ≤ i)))
  | _, _ => none
/-- ==: bools; texts of the same value; data -/
@[simp] def fEqB : A → A → Option Bool
  | .bl b, .bl c => some (decide (b = c))
  | .txt a, .txt b => if A.same a b then some true else none
  | x, y => if A.dat 40 x && A.dat 40 y then some (A.eqv x y) else none
@[simp] def fEq (x y : A) : Option A := (fEqB x y).map .bl
@[simp] def fNe (x y : A) : Option A := (fEqB x y).map fun b => .bl (!b)
@[simp] def fIsN : A → Option A
  | .non => some (.bl true)
  | .cell _ => none
  | _ => some (.bl false)
@[simp] def fNotN : A → Option A
  | .non => some (.bl false)
  | .cell _ => none
  | _ => some (.bl true)
@[simp] def fIsB : A → A → Option A
  | .bl a, .bl b => some (.bl (decide (a = b)))
  | _, _ => none
/-- an index, from the end too -/
@[simp] def A.ix (xs : List A) (i : Int) : Option A := if 0 ≤ i then xs[i.toNat]? else if -(xs.length : Int) ≤ i then xs[(i + xs.length).toNat]? else none
@[simp] def fIx : A → A → Option A
  | .tup xs, .int i => A.ix xs i
  | .lst xs, .int i => A.ix xs i
  | _, _ => none
/-- x[i], x a list that is being changed -/
def xIxC (ga gb : GE) : GE := fun ss w => (ga ss w).bind fun p => (gb ss p.2).bind fun q => match p.1, q.1 with
  | .cell n, .int i => (q.2[n]?).bind fun xs => (A.ix xs i).map fun z => (z, q.2)
  | _, _ => none
def strsOf : List A → Option (List String)
  | [] => some []
  | .str s :: r => (strsOf r).map (s :: ·)
  | _ => none
def intsOf : List A → Option (List Int)
  | [] => some []
  | .int s :: r => (intsOf r).map (s :: ·)
  | _ => none
def blsOf : List A → Option (List Bool)
  | [] => some []
  | .bl s :: r => (blsOf r).map (s :: ·)
  | _ => none
/-- x in a tuple of texts, of ints -/
def fIn : A → A → Option A
  | .str s, .tup xs => (strsOf xs).map fun ts => .bl (decide (s ∈ ts))
  | .int i, .tup xs => (intsOf xs).map fun ts => .bl (decide (i ∈ ts))
  | _, _ => none
@[simp] def fNotB : A → Option A
  | .bl b => some (.bl (!b))
  | _ => none
@[simp] def fNotIn (x y : A) : Option A := (fIn x y).bind fNotB
/-- a slice's bound among n (d where it is left out) -/
def plc (n d : Nat) : Option Int → Nat
  | none => d
  | some i => if i < 0 then (i + (n : Int)).toNat else min i.toNat n
def cut (xs : List A) (lo hi : Option Int) : List A := (xs.drop (plc xs.length 0 lo)).take (plc xs.length xs.length hi - plc xs.length 0 lo)
abbrev GO := SS → W → Option (Option Int × W)
@[simp] def xONone : GO := fun _ w => some (none, w)
@[simp] def xOSome (ga : GE) : GO := fun ss w => (ga ss w).bind fun p => match p.1 with
  | .int i => some (some i, p.2)
  | _ => none
/-- x[lo:hi] of a tuple -/
@[simp] def xSl (ga : GE) (gl gh : GO) : GE := fun ss w => (ga ss w).bind fun p => (gl ss p.2).bind fun q => (gh ss q.2).bind fun r => match p.1 with
  | .tup xs => some (.tup (cut xs q.1 r.1), r.2)
  | _ => none

/-! ### built-ins by values -/
@[simp] def isTy (T : String) : A → Option Bool
  | .non => some false
  | .bl _ => some (decide (T = "bool" ∨ T = "int"))
  | .int _ => some (decide (T = "int"))
  | .str _ => some (decide (T = "str"))
  | .tup _ => some (decide (T = "tuple"))
  | .lst _ => some (decide (T = "list"))
  | _ => none
@[simp] def fIsi (T : String) (a : A) : Option A := (isTy T a).map .bl
@[simp] def bLen : List A → Option A
  | [.tup xs] => some (.int xs.length)
  | [.lst xs] => some (.int xs.length)
  | _ => none
def bAll : List A → Option A
  | [.lst xs] => (blsOf xs).map fun bs => .bl (bs.all id)
  | _ => none
@[simp] def bTuple : List A → Option A
  | [.lst xs] => some (.tup xs)
  | [.tup xs] => some (.tup xs)
  | _ => none
@[simp] def bInt : List A → Option A
  | [.int i] => some (.int i)
  | [.bl b] => some (.int (if b then 1 else 0))
  | _ => none
@[simp] def bAbs : List A → Option A
  | [.int i] => some (.int (if i < 0 then -i else i))
  | _ => none
@[simp] def bMax : List A → Option A
  | [.int i, .int j] => some (.int (if j > i then j else i))
  | _ => none
@[simp] def bMin : List A → Option A
  | [.int i, .int j] => some (.int (if j < i then j else i))
  | _ => none
@[simp] def bGcd : List A → Option A
  | [.int i, .int j] => some (.int ((Nat.gcd i.natAbs j.natAbs : Nat) : Int))
  | _ => none
theorem isq_ex (n : Nat) : ∃ r : Nat, r * r ≤ n ∧ n < (r + 1) * (r + 1) := by
  induction n with
  | zero => exact ⟨0, by decide, by decide⟩
  | succ n ih =>
    obtain ⟨r, h1, h2⟩ := ih
    by_cases h : n + 1 < (r + 1) * (r + 1)
    · exact ⟨r, by omega, h⟩
    · refine ⟨r + 1, by omega, ?_⟩
      have e : (r + 1 + 1) * (r + 1 + 1) = (r + 1) * (r + 1) + 2 * (r + 1) + 1 := by
        simp only [Nat.add_mul, Nat.mul_add, Nat.mul_one, Nat.one_mul]
        omega
      omega
/-- the whole root -/
noncomputable def isq (n : Nat) : Nat := Classical.choose (isq_ex n)
theorem isq_spec (n : Nat) : isq n * isq n ≤ n ∧ n < (isq n + 1) * (isq n + 1) := Classical.choose_spec (isq_ex n)
theorem isq_one {n r : Nat} (h1 : r * r ≤ n) (h2 : n < (r + 1) * (r + 1)) : isq n = r := by
  obtain ⟨h3, h4⟩ := isq_spec n
  have a : ¬ isq n < r := fun h => by
    have := Nat.mul_le_mul (show isq n + 1 ≤ r from h) (show isq n + 1 ≤ r from h)
    omega
  have b : ¬ r < isq n := fun h => by
    have := Nat.mul_le_mul (show r + 1 ≤ isq n from h) (show r + 1 ≤ isq n from h)
    omega
  omega
noncomputable def bIsqrt : List A → Option A
  | [.int i] => if decide (0 ≤ i ∧ i.natAbs.log2 < 13000) then some (.int (isq i.toNat : Nat)) else none
  | _ => none
/-- what repr is asked of -/
def reprOk : A → Bool
  | .non => true
  | .bl _ => true
  | .tup [] => true
  | .tup [.int i] => decide (i.natAbs.log2 < 1000)
  | .tup [.int i, .int j] => decide (i.natAbs.log2 < 1000 ∧ j.natAbs.log2 < 1000)
  | _ => false
def bRepr : List A → Option A
  | [a] => if reprOk a then some (.txt a) else none
  | _ => none
/-- x.bit_length() -/
def fBits : A → Option A
  | .int i => some (.int ((if i = 0 then 0 else i.natAbs.log2 + 1 : Nat) : Int))
  | _ => none
/-- the module's dict PASSED -/
def fPassed : A → Option A
  | .str s => if s = "post" then some (.str "over") else if s = "curtain" then some (.str "under") else none
  | _ => none
def fNotPassed : A → Option A
  | .str s => if s = "post" then some (.bl false) else if s = "curtain" then some (.bl false) else none
  | _ => none
def fFld (f : String) : A → Option A
  | .ins lo up le => if f = "lowers" then some lo else if f = "uppers" then some up else if f = "let" then some le else none
  | _ => none

/-! ### targets -/
abbrev GG := A → SS → Option SS
abbrev GGs := List A → SS → Option SS
@[simp] def xName (i : Nat) : GG := fun a ss => some (ss.set i (some a))
@[simp] def xNilG : GGs := fun xs ss => match xs with
  | [] => some ss
  | _ => none
@[simp] def xConsG (g : GG) (gs : GGs) : GGs := fun xs ss => match xs with
  | x :: r => (g x ss).bind fun ss1 => gs r ss1
  | _ => none
@[simp] def xTupG (gs : GGs) : GG := fun a ss => match a with
  | .tup xs => gs xs ss
  | _ => none
@[simp] def xLstG (gs : GGs) : GG := fun a ss => match a with
  | .lst xs => gs xs ss
  | _ => none

/-! ### what is walked -/
abbrev GI := SS → W → Option (List A × W)
@[simp] def yTup (ga : GE) : GI := fun ss w => (ga ss w).bind fun p => match p.1 with
  | .tup xs => some (xs, p.2)
  | _ => none
@[simp] def yLst (ga : GE) : GI := fun ss w => (ga ss w).bind fun p => match p.1 with
  | .lst xs => some (xs, p.2)
  | _ => none
def nums (lo : Int) (n : Nat) : List A := (List.range n).map fun i => .int (lo + (i : Nat))
/-- (by choice, so that nothing evaluates it) -/
noncomputable def sure (p : Prop) : Bool := @decide p (Classical.propDecidable p)
theorem sure_iff {p : Prop} : sure p = true ↔ p := ⟨fun h => @of_decide_eq_true p (Classical.propDecidable p) h, fun h => @decide_eq_true p (Classical.propDecidable p) h⟩
noncomputable def rngOk (i : Int) : Bool := sure (-1000000 ≤ i ∧ i ≤ 1000000)
noncomputable def yRng1 (ga : GE) : GI := fun ss w => (ga ss w).bind fun p => match p.1 with
  | .int j => if rngOk j then some (nums 0 j.toNat, p.2) else none
  | _ => none
noncomputable def yRng2 (ga gb : GE) : GI := fun ss w => (ga ss w).bind fun p => (gb ss p.2).bind fun q => match p.1, q.1 with
  | .int i, .int j => if rngOk i && rngOk j then some (nums i (j - i).toNat, q.2) else none
  | _, _ => none
@[simp] def pairs (xs ys : List A) : List A := (xs.zip ys).map fun p => .tup [p.1, p.2]
@[simp] def yZipT (ga gb : GE) : GI := fun ss w => (ga ss w).bind fun p => (gb ss p.2).bind fun q => match p.1, q.1 with
  | .tup xs, .tup ys => some (pairs xs ys, q.2)
  | _, _ => none
def yZipL (ga gb : GE) : GI := fun ss w => (ga ss w).bind fun p => (gb ss p.2).bind fun q => match p.1, q.1 with
  | .lst xs, .lst ys => some (pairs xs ys, q.2)
  | _, _ => none
@[simp] def yEnum (ga : GE) : GI := fun ss w => (ga ss w).bind fun p => match p.1 with
  | .tup xs => some (pairs (nums 0 xs.length) xs, p.2)
  | _ => none

/-! ### comprehensions -/
@[simp] def wipeS (ss : SS) : List Nat → SS
  | [] => ss
  | v :: vs => (wipeS ss vs).set v none
@[simp] def xYes : GT := fun _ w => some (true, w)
@[simp] def lcLoop (g : GG) (gt : GT) (ge : GE) (s0 : SS) : List A → W → Option (List A × W)
  | [], w => some ([], w)
  | x :: xs, w => (g x s0).bind fun ss => (gt ss w).bind fun p => if p.1 = true then (ge ss p.2).bind fun q => (lcLoop g gt ge s0 xs q.2).map fun r => (q.1 :: r.1, r.2) else lcLoop g gt ge s0 xs p.2
@[simp] def xLc (gi : GI) (g : GG) (gt : GT) (ge : GE) (own : List Nat) : GE := fun ss w => (gi ss w).bind fun p => if small p.1.length then (lcLoop g gt ge (wipeS ss own) p.1 p.2).map fun r => (.lst r.1, r.2) else none

/-! ### statements -/
@[simp] def xNext : GS := fun ss w => some (.nx ss w)
@[simp] def xSeq (g h : GS) : GS := fun ss w => (g ss w).bind fun o => match o with
  | .nx ss1 w1 => h ss1 w1
  | o => some o
@[simp] def xAsg (ge : GE) (g : GG) : GS := fun ss w => (ge ss w).bind fun p => (g p.1 ss).map fun ss1 => .nx ss1 p.2
@[simp] def xSet (i : Nat) (ge : GE) : GS := xAsg ge (xName i)
@[simp] def xRet (ge : GE) : GS := fun ss w => (ge ss w).map fun p => .rt p.1 p.2
@[simp] def xIfS (gt : GT) (g h : GS) : GS := fun ss w => (gt ss w).bind fun p => if p.1 = true then g ss p.2 else h ss p.2
@[simp] def xDrop (ge : GE) : GS := fun ss w => (ge ss w).map fun p => .nx ss p.2
@[simp] def xBrk : GS := fun ss w => some (.bk ss w)
@[simp] def xNever : GS := fun _ _ => none
@[simp] def forLoop (g : GG) (gb : GS) : List A → SS → W → Option Out
  | [], ss, w => some (.nx ss w)
  | x :: xs, ss, w => (g x ss).bind fun ss1 => (gb ss1 w).bind fun o => match o with
    | .nx ss2 w2 => forLoop g gb xs ss2 w2
    | .bk ss2 w2 => some (.nx ss2 w2)
    | .rt a w2 => some (.rt a w2)
@[simp] def xFor (gi : GI) (g : GG) (gb : GS) : GS := fun ss w => (gi ss w).bind fun p => forLoop g gb p.1 ss p.2
/-- a, b = x, y; a, b, c = x, y, z -/
@[simp] def xPar2 (i j : Nat) (ga : GA) : GS := fun ss w => (ga ss w).bind fun p => match p.1 with
  | [a, b] => some (.nx ((ss.set i (some a)).set j (some b)) p.2)
  | _ => none
@[simp] def xPar3 (i j l : Nat) (ga : GA) : GS := fun ss w => (ga ss w).bind fun p => match p.1 with
  | [a, b, c] => some (.nx (((ss.set i (some a)).set j (some b)).set l (some c)) p.2)
  | _ => none
/-! lists that are being changed -/
mutual
def A.noCell : A → Bool
  | .cell _ => false
  | .tup xs => A.noCells xs
  | .lst xs => A.noCells xs
  | .ins a b c => A.noCell a && A.noCell b && A.noCell c
  | _ => true
def A.noCells : List A → Bool
  | [] => true
  | x :: xs => A.noCell x && A.noCells xs
end
def A.plain (w : W) : Bool := w.all A.noCells
/-- behind a def's last row: its own lists, from the n-th, are its own no more -/
def xFin (n : Nat) : Out → Option Out
  | .rt (.cell m) w => if n ≤ m then (w[m]?).bind fun xs => if A.noCells xs && A.plain (w.take n) then some (.rt (.lst xs) (w.take n)) else none else none
  | .rt a w => if A.noCell a && A.plain (w.take n) then some (.rt a (w.take n)) else none
  | _ => none
/-- x = []; the rest -/
def xAlloc (i : Nat) (g : GS) : GS := fun ss w => (g (ss.set i (some (.cell w.length))) (w ++ [[]])).bind (xFin w.length)
/-- x, y = [], e; the rest -/
def xAlloc2 (i j : Nat) (ge : GE) (g : GS) : GS := fun ss w => (ge ss (w ++ [[]])).bind fun p => (g ((ss.set i (some (.cell w.length))).set j (some p.1)) p.2).bind (xFin w.length)
/-- x, y, z = [e], [], []; the rest -/
def xAlloc3 (i j l : Nat) (ga : GA) (g : GS) : GS := fun ss w => (ga ss w).bind fun p => if small p.1.length then (g (((ss.set i (some (.cell p.2.length))).set j (some (.cell (p.2.length + 1)))).set l (some (.cell (p.2.length + 2)))) (p.2 ++ [p.1, [], []])).bind (xFin p.2.length) else none
/-- x != [] -/
def xNeNil (i : Nat) : GT := fun ss w => match ss[i]? with
  | some (some (.cell n)) => (w[n]?).bind fun xs => if A.dats 39 xs then some (!xs.isEmpty, w) else none
  | _ => none
/-- tuple(x) -/
def xTupC (i : Nat) : GE := fun ss w => match ss[i]? with
  | some (some (.cell n)) => (w[n]?).map fun xs => (.tup xs, w)
  | _ => none
open Classical in
/-- for .. in x: the list must not change -/
noncomputable def forLoopC (n : Nat) (xs : List A) (g : GG) (gb : GS) : List A → SS → W → Option Out
  | [], ss, w => if w[n]? = some xs then some (.nx ss w) else none
  | x :: r, ss, w => if w[n]? = some xs then (g x ss).bind fun ss1 => (gb ss1 w).bind fun o => match o with
    | .nx ss2 w2 => forLoopC n xs g gb r ss2 w2
    | .bk ss2 w2 => some (.nx ss2 w2)
    | .rt a w2 => some (.rt a w2) else none
noncomputable def xForC (i : Nat) (g : GG) (gb : GS) : GS := fun ss w => match ss[i]? with
  | some (some (.cell n)) => (w[n]?).bind fun xs => forLoopC n xs g gb xs ss w
  | _ => none
/-- x[k], y = divmod(e, f) -/
noncomputable def xDivC (i : Nat) (k : Nat) (j : Nat) (ga gb : GE) : GS := fun ss w => match ss[i]? with
  | some (some (.cell n)) => (ga ss w).bind fun p => (gb ss p.2).bind fun q => match p.1, q.1 with
    | .int a, .int b => if sure (0 < b ∧ b < 1073741824) then (q.2[n]?).bind fun xs => if k < xs.length then some (.nx (ss.set j (some (.int (a % b)))) (q.2.set n (xs.set k (.int (a / b))))) else none else none
    | _, _ => none
  | _ => none
/-- x.append(e), x a list that is being changed -/
def xApp (i : Nat) (ge : GE) : GS := fun ss w => match ss[i]? with
  | some (some (.cell n)) => (ge ss w).bind fun p => (p.2[n]?).bind fun xs => if small xs.length then some (.nx ss (p.2.set n (xs ++ [p.1]))) else none
  | _ => none
/-- x[i] = e -/
def xSetC (i : Nat) (gk ge : GE) : GS := fun ss w => match ss[i]? with
  | some (some (.cell n)) => (ge ss w).bind fun p => (gk ss p.2).bind fun q => match q.1 with
    | .int k => (q.2[n]?).bind fun xs => if 0 ≤ k ∧ k < xs.length then some (.nx ss (q.2.set n (xs.set k.toNat p.1))) else if -(xs.length : Int) ≤ k ∧ k < 0 then some (.nx ss (q.2.set n (xs.set (k + xs.length).toNat p.1))) else none
    | _ => none
  | _ => none

/-! ### a def's body -/
@[simp] def startSS (n : Nat) (as : List A) : SS := as.map some ++ List.replicate (n - as.length) none
end Sp
namespace Sp
/-- a def: n arguments, N slots -/
@[simp] def xDef (n N : Nat) (g : GS) : GF := fun as w => if as.length = n then xRun (g (startSS N as) w) else none
where
  /-- what a body hands back -/
  @[simp] xRun : Option Out → Option (A × W)
    | some (.rt a w1) => some (a, w1)
    | some (.nx _ w1) => some (.non, w1)
    | _ => none
/-- an instance of Bounds out of its three -/
def xIns (ga gb gc : GE) : GE := fun ss w => (ga ss w).bind fun p => (gb ss p.2).bind fun q => (gc ss q.2).map fun r => (.ins p.1 q.1 r.1, r.2)
/-- a method whose own instance is being made: two arguments, N slots -/
def xDefO (N : Nat) (g : GS) : GF := fun as w => match as with
  | [a, b] => (match g ([none, some a, some b] ++ List.replicate (N - 3) none) w with
    | some (.rt z w1) => some (z, w1)
    | _ => none)
  | _ => none
end Sp
/-! GS: each def as a pure function (printed by gen.py). -/
namespace Sp
noncomputable section
def cZERO : A := .tup [.int 0, .int 1]
def cONE : A := .tup [.int 1, .int 1]
def cFOUR : A := .tup [.int 4, .int 1]
def cTWO : A := .tup [.int 2, .int 1]
def cMOST_ASKS : A := .int 8
def cPLACED : A := .tup [.str "over", .str "under"]
def cSTEEP : A := .tup [.str "dives", .str "climbs"]
def cBENT : A := .tup [.str "quick", .str "slow", .str "low"]
def cLEAST : A := .tup [.str "under", .str "roof", .str "low", .str "dives", .str "slow"]
def cNOTHING : A := .tup [cZERO, cZERO, cZERO]
def cMOST_GUARDS : A := .int 8
def B_is_whole : GS := xRet (xAndV (xUn (fIsi "int") (xVar 0)) (xNotV (xUn (fIsi "bool") (xVar 0))))
def G_is_whole : GF := xDef 1 1 B_is_whole
def B_are_wholes : GS := xRet (xAndV (xUn (fIsi "tuple") (xVar 0)) (xAndV (xOp fEq (xBlt bLen (xConsA (xVar 0) (xNilA))) (xVar 1)) (xBlt bAll (xConsA (xLc (yTup (xVar 0)) (xName 2) (xYes) (xCall G_is_whole (xConsA (xVar 2) (xNilA))) [2]) (xNilA)))))
def G_are_wholes : GF := xDef 2 3 B_are_wholes
def B_divisor_of : GS := xSeq (xAsg (xC (.int 0)) (xName 1))
  (xSeq (xFor (yTup (xVar 0)) (xName 2) (xAsg (xBlt bGcd (xConsA (xVar 1) (xConsA (xVar 2) (xNilA)))) (xName 1)))
  (xRet (xVar 1)))
def G_divisor_of : GF := xDef 1 3 B_divisor_of
def B_is_reduced : GS := xRet (xOp fEq (xCall G_divisor_of (xConsA (xVar 0) (xNilA))) (xC (.int 1)))
def G_is_reduced : GF := xDef 1 1 B_is_reduced
def B_sign_of : GS := xRet (xIf (xT (xOp fGt (xVar 0) (xC (.int 0)))) (xC (.int 1)) (xIf (xT (xOp fLt (xVar 0) (xC (.int 0)))) (xUn fNeg (xC (.int 1))) (xC (.int 0))))
def G_sign_of : GF := xDef 1 1 B_sign_of
def B_is_ratio : GS := xRet (xAndV (xCall G_are_wholes (xConsA (xVar 0) (xConsA (xC (.int 2)) (xNilA)))) (xAndV (xOp fGt (xOp fIx (xVar 0) (xC (.int 1))) (xC (.int 0))) (xCall G_is_reduced (xConsA (xVar 0) (xNilA)))))
def G_is_ratio : GF := xDef 1 1 B_is_ratio
def B_ratio : GS := xSeq (xAsg (xCall G_divisor_of (xConsA (xTup (xConsA (xVar 0) (xConsA (xVar 1) (xNilA)))) (xNilA))) (xName 2))
  (xSeq (xAsg (xIf (xT (xOp fGt (xVar 1) (xC (.int 0)))) (xVar 2) (xUn fNeg (xVar 2))) (xName 2))
  (xRet (xTup (xConsA (xOp fDivN (xVar 0) (xVar 2)) (xConsA (xOp fDivN (xVar 1) (xVar 2)) (xNilA))))))
def G_ratio : GF := xDef 2 3 B_ratio
def B_ratio_sum : GS := xRet (xCall G_ratio (xConsA (xOp fAdd (xOp fMul (xOp fIx (xVar 0) (xC (.int 0))) (xOp fIx (xVar 1) (xC (.int 1)))) (xOp fMul (xOp fIx (xVar 1) (xC (.int 0))) (xOp fIx (xVar 0) (xC (.int 1))))) (xConsA (xOp fMul (xOp fIx (xVar 0) (xC (.int 1))) (xOp fIx (xVar 1) (xC (.int 1)))) (xNilA))))
def G_ratio_sum : GF := xDef 2 2 B_ratio_sum
def B_ratio_less : GS := xRet (xCall G_ratio (xConsA (xOp fSub (xOp fMul (xOp fIx (xVar 0) (xC (.int 0))) (xOp fIx (xVar 1) (xC (.int 1)))) (xOp fMul (xOp fIx (xVar 1) (xC (.int 0))) (xOp fIx (xVar 0) (xC (.int 1))))) (xConsA (xOp fMul (xOp fIx (xVar 0) (xC (.int 1))) (xOp fIx (xVar 1) (xC (.int 1)))) (xNilA))))
def G_ratio_less : GF := xDef 2 2 B_ratio_less
def B_ratio_product : GS := xRet (xCall G_ratio (xConsA (xOp fMul (xOp fIx (xVar 0) (xC (.int 0))) (xOp fIx (xVar 1) (xC (.int 0)))) (xConsA (xOp fMul (xOp fIx (xVar 0) (xC (.int 1))) (xOp fIx (xVar 1) (xC (.int 1)))) (xNilA))))
def G_ratio_product : GF := xDef 2 2 B_ratio_product
def B_ratio_over : GS := xRet (xCall G_ratio (xConsA (xOp fMul (xOp fIx (xVar 0) (xC (.int 0))) (xOp fIx (xVar 1) (xC (.int 1)))) (xConsA (xOp fMul (xOp fIx (xVar 0) (xC (.int 1))) (xOp fIx (xVar 1) (xC (.int 0)))) (xNilA))))
def G_ratio_over : GF := xDef 2 2 B_ratio_over
def B_ratio_back : GS := xRet (xTup (xConsA (xUn fNeg (xOp fIx (xVar 0) (xC (.int 0)))) (xConsA (xOp fIx (xVar 0) (xC (.int 1))) (xNilA))))
def G_ratio_back : GF := xDef 1 1 B_ratio_back
def B_is_lower : GS := xRet (xOp fLt (xOp fMul (xOp fIx (xVar 0) (xC (.int 0))) (xOp fIx (xVar 1) (xC (.int 1)))) (xOp fMul (xOp fIx (xVar 1) (xC (.int 0))) (xOp fIx (xVar 0) (xC (.int 1)))))
def G_is_lower : GF := xDef 2 2 B_is_lower
def B_is_spot : GS := xRet (xAndV (xCall G_are_wholes (xConsA (xVar 0) (xConsA (xC (.int 3)) (xNilA)))) (xAndV (xOp fGt (xOp fIx (xVar 0) (xC (.int 2))) (xC (.int 0))) (xCall G_is_reduced (xConsA (xVar 0) (xNilA)))))
def G_is_spot : GF := xDef 1 1 B_is_spot
def B_is_ahead : GS := xRet (xAndV (xCall G_is_spot (xConsA (xVar 0) (xNilA))) (xOp fGt (xOp fIx (xVar 0) (xC (.int 0))) (xC (.int 0))))
def G_is_ahead : GF := xDef 1 1 B_is_ahead
def B_far_of : GS := xRet (xCall G_ratio (xConsA (xOp fIx (xVar 0) (xC (.int 0))) (xConsA (xOp fIx (xVar 0) (xC (.int 2))) (xNilA))))
def G_far_of : GF := xDef 1 1 B_far_of
def B_tall_of : GS := xRet (xCall G_ratio (xConsA (xOp fIx (xVar 0) (xC (.int 1))) (xConsA (xOp fIx (xVar 0) (xC (.int 2))) (xNilA))))
def G_tall_of : GF := xDef 1 1 B_tall_of
def B_is_nearer : GS := xRet (xOp fLt (xOp fMul (xOp fIx (xVar 0) (xC (.int 0))) (xOp fIx (xVar 1) (xC (.int 2)))) (xOp fMul (xOp fIx (xVar 1) (xC (.int 0))) (xOp fIx (xVar 0) (xC (.int 2)))))
def G_is_nearer : GF := xDef 2 2 B_is_nearer
def B_way_between : GS := xSeq (xPar2 5 6 (xConsA (xCall G_far_of (xConsA (xVar 0) (xNilA))) (xConsA (xCall G_tall_of (xConsA (xVar 0) (xNilA))) (xNilA))))
  (xSeq (xAsg (xCall G_ratio_less (xConsA (xCall G_far_of (xConsA (xVar 1) (xNilA))) (xConsA (xVar 5) (xNilA)))) (xName 2))
  (xSeq (xAsg (xCall G_ratio_less (xConsA (xCall G_tall_of (xConsA (xVar 1) (xNilA))) (xConsA (xVar 6) (xNilA)))) (xName 3))
  (xSeq (xAsg (xCall G_ratio (xConsA (xOp fMul (xOp fIx (xVar 3) (xC (.int 0))) (xOp fIx (xVar 2) (xC (.int 1)))) (xConsA (xOp fMul (xOp fIx (xVar 3) (xC (.int 1))) (xOp fIx (xVar 2) (xC (.int 0)))) (xNilA)))) (xName 4))
  (xRet (xTup (xConsA (xCall G_ratio_less (xConsA (xVar 6) (xConsA (xCall G_ratio_product (xConsA (xVar 4) (xConsA (xVar 5) (xNilA)))) (xNilA)))) (xConsA (xVar 4) (xNilA))))))))
def G_way_between : GF := xDef 2 7 B_way_between
def B_square_root : GS := xSeq (xPar2 1 2 (xConsA (xBlt bIsqrt (xConsA (xOp fIx (xVar 0) (xC (.int 0))) (xNilA))) (xConsA (xBlt bIsqrt (xConsA (xOp fIx (xVar 0) (xC (.int 1))) (xNilA))) (xNilA))))
  (xRet (xIf (xAnd (xT (xOp fEq (xOp fMul (xVar 1) (xVar 1)) (xOp fIx (xVar 0) (xC (.int 0))))) (xT (xOp fEq (xOp fMul (xVar 2) (xVar 2)) (xOp fIx (xVar 0) (xC (.int 1)))))) (xTup (xConsA (xVar 1) (xConsA (xVar 2) (xNilA)))) (xC .non)))
def G_square_root : GF := xDef 1 3 B_square_root
def B_plain : GS := xRet (xTup (xConsA (xVar 0) (xConsA (xC (.int 0)) (xConsA (xC cZERO) (xNilA)))))
def G_plain : GF := xDef 1 1 B_plain
def B_surd_from : GS := xSeq (xAsg (xCall G_ratio_product (xConsA (xCall G_ratio_product (xConsA (xVar 1) (xConsA (xVar 1) (xNilA)))) (xConsA (xVar 2) (xNilA)))) (xName 3))
  (xSeq (xPar2 4 5 (xConsA (xCall G_square_root (xConsA (xVar 3) (xNilA))) (xConsA (xCall G_sign_of (xConsA (xOp fIx (xVar 1) (xC (.int 0))) (xNilA))) (xNilA))))
  (xSeq (xIfS (xT (xUn fIsN (xVar 4))) (xRet (xTup (xConsA (xVar 0) (xConsA (xVar 5) (xConsA (xVar 3) (xNilA)))))) (xNext))
  (xRet (xCall G_plain (xConsA (xCall G_ratio_sum (xConsA (xVar 0) (xConsA (xTup (xConsA (xOp fMul (xVar 5) (xOp fIx (xVar 4) (xC (.int 0)))) (xConsA (xOp fIx (xVar 4) (xC (.int 1))) (xNilA)))) (xNilA)))) (xNilA))))))
def G_surd_from : GF := xDef 3 6 B_surd_from
def B_sign_of_one : GS := xSeq (xPar2 3 4 (xConsA (xCall G_sign_of (xConsA (xVar 0) (xNilA))) (xConsA (xIf (xT (xOp fGt (xVar 2) (xC (.int 0)))) (xCall G_sign_of (xConsA (xVar 1) (xNilA))) (xC (.int 0))) (xNilA))))
  (xSeq (xIfS (xOr (xT (xOp fEq (xVar 3) (xC (.int 0)))) (xOr (xT (xOp fEq (xVar 4) (xC (.int 0)))) (xT (xOp fEq (xVar 3) (xVar 4))))) (xRet (xIf (xT (xOp fNe (xVar 3) (xC (.int 0)))) (xVar 3) (xVar 4))) (xNext))
  (xRet (xOp fMul (xVar 3) (xCall G_sign_of (xConsA (xOp fSub (xOp fMul (xVar 0) (xVar 0)) (xOp fMul (xOp fMul (xVar 1) (xVar 1)) (xVar 2))) (xNilA))))))
def G_sign_of_one : GF := xDef 3 5 B_sign_of_one
def B_sign_of_two : GS := xSeq (xPar2 5 6 (xConsA (xCall G_sign_of_one (xConsA (xVar 0) (xConsA (xVar 1) (xConsA (xVar 2) (xNilA))))) (xConsA (xIf (xT (xOp fGt (xVar 4) (xC (.int 0)))) (xCall G_sign_of (xConsA (xVar 3) (xNilA))) (xC (.int 0))) (xNilA))))
  (xSeq (xIfS (xOr (xT (xOp fEq (xVar 5) (xC (.int 0)))) (xOr (xT (xOp fEq (xVar 6) (xC (.int 0)))) (xT (xOp fEq (xVar 5) (xVar 6))))) (xRet (xIf (xT (xOp fNe (xVar 5) (xC (.int 0)))) (xVar 5) (xVar 6))) (xNext))
  (xRet (xOp fMul (xVar 5) (xCall G_sign_of_one (xConsA (xOp fSub (xOp fAdd (xOp fMul (xVar 0) (xVar 0)) (xOp fMul (xOp fMul (xVar 1) (xVar 1)) (xVar 2))) (xOp fMul (xOp fMul (xVar 3) (xVar 3)) (xVar 4))) (xConsA (xOp fMul (xOp fMul (xC (.int 2)) (xVar 0)) (xVar 1)) (xConsA (xVar 2) (xNilA))))))))
def G_sign_of_two : GF := xDef 5 7 B_sign_of_two
def B_compared : GS := xSeq (xAsg (xVar 0) (xTupG (xConsG (xTupG (xConsG (xName 4) (xConsG (xName 5) (xNilG)))) (xConsG (xName 2) (xConsG (xTupG (xConsG (xName 6) (xConsG (xName 7) (xNilG)))) (xNilG))))))
  (xSeq (xAsg (xVar 1) (xTupG (xConsG (xTupG (xConsG (xName 8) (xConsG (xName 9) (xNilG)))) (xConsG (xName 3) (xConsG (xTupG (xConsG (xName 10) (xConsG (xName 11) (xNilG)))) (xNilG))))))
  (xSeq (xIfS (xAnd (xT (xOp fEq (xVar 2) (xC (.int 0)))) (xT (xOp fEq (xVar 3) (xC (.int 0))))) (xRet (xCall G_sign_of (xConsA (xOp fSub (xOp fMul (xVar 4) (xVar 9)) (xOp fMul (xVar 8) (xVar 5))) (xNilA)))) (xNext))
  (xRet (xCall G_sign_of_two (xConsA (xOp fMul (xOp fMul (xOp fSub (xOp fMul (xVar 4) (xVar 9)) (xOp fMul (xVar 8) (xVar 5))) (xVar 7)) (xVar 11)) (xConsA (xOp fMul (xOp fMul (xOp fMul (xVar 2) (xVar 5)) (xVar 9)) (xVar 11)) (xConsA (xOp fMul (xVar 6) (xVar 7)) (xConsA (xOp fMul (xOp fMul (xOp fMul (xUn fNeg (xVar 3)) (xVar 5)) (xVar 9)) (xVar 7)) (xConsA (xOp fMul (xVar 10) (xVar 11)) (xNilA))))))))))
def G_compared : GF := xDef 2 12 B_compared
def B_lower_surd : GS := xRet (xIf (xT (xOp fLt (xCall G_compared (xConsA (xVar 1) (xConsA (xVar 0) (xNilA)))) (xC (.int 0)))) (xVar 1) (xVar 0))
def G_lower_surd : GF := xDef 2 2 B_lower_surd
def B_higher_surd : GS := xRet (xIf (xT (xOp fLt (xCall G_compared (xConsA (xVar 0) (xConsA (xVar 1) (xNilA)))) (xC (.int 0)))) (xVar 1) (xVar 0))
def G_higher_surd : GF := xDef 2 2 B_higher_surd
def B_bent_less : GS := xRet (xBlt bTuple (xConsA (xLc (yZipT (xVar 0) (xVar 1)) (xTupG (xConsG (xName 2) (xConsG (xName 3) (xNilG)))) (xYes) (xCall G_ratio_sum (xConsA (xVar 2) (xConsA (xTup (xConsA (xUn fNeg (xOp fIx (xVar 3) (xC (.int 0)))) (xConsA (xOp fIx (xVar 3) (xC (.int 1))) (xNilA)))) (xNilA)))) [2, 3]) (xNilA)))
def G_bent_less : GF := xDef 2 4 B_bent_less
def B_roots_of : GS := xSeq (xAsg (xVar 0) (xTupG (xConsG (xTupG (xConsG (xName 6) (xConsG (xName 7) (xNilG)))) (xConsG (xTupG (xConsG (xName 8) (xConsG (xName 9) (xNilG)))) (xConsG (xTupG (xConsG (xName 10) (xConsG (xName 11) (xNilG)))) (xNilG))))))
  (xSeq (xIfS (xT (xOp fEq (xVar 10) (xC (.int 0)))) (xRet (xIf (xT (xOp fEq (xVar 8) (xC (.int 0)))) (xLst (xNilA)) (xLst (xConsA (xCall G_plain (xConsA (xCall G_ratio (xConsA (xOp fMul (xUn fNeg (xVar 6)) (xVar 9)) (xConsA (xOp fMul (xVar 7) (xVar 8)) (xNilA)))) (xNilA))) (xNilA))))) (xNext))
  (xSeq (xAsg (xTup (xConsA (xOp fMul (xOp fMul (xVar 10) (xVar 7)) (xVar 9)) (xConsA (xOp fMul (xOp fMul (xVar 8) (xVar 7)) (xVar 11)) (xConsA (xOp fMul (xOp fMul (xVar 6) (xVar 9)) (xVar 11)) (xNilA))))) (xTupG (xConsG (xName 3) (xConsG (xName 4) (xConsG (xName 5) (xNilG))))))
  (xSeq (xAsg (xOp fSub (xOp fMul (xVar 4) (xVar 4)) (xOp fMul (xOp fMul (xC (.int 4)) (xVar 3)) (xVar 5))) (xName 1))
  (xSeq (xIfS (xT (xOp fLt (xVar 1) (xC (.int 0)))) (xRet (xLst (xNilA))) (xNext))
  (xSeq (xIfS (xT (xOp fEq (xVar 1) (xC (.int 0)))) (xRet (xLst (xConsA (xCall G_plain (xConsA (xCall G_ratio (xConsA (xUn fNeg (xVar 4)) (xConsA (xOp fMul (xC (.int 2)) (xVar 3)) (xNilA)))) (xNilA))) (xNilA)))) (xNext))
  (xSeq (xAsg (xLc (yTup (xTup (xConsA (xUn fNeg (xC (.int 1))) (xConsA (xC (.int 1)) (xNilA))))) (xName 12) (xYes) (xCall G_surd_from (xConsA (xCall G_ratio (xConsA (xUn fNeg (xVar 4)) (xConsA (xOp fMul (xC (.int 2)) (xVar 3)) (xNilA)))) (xConsA (xTup (xConsA (xVar 12) (xConsA (xC (.int 1)) (xNilA)))) (xConsA (xCall G_ratio (xConsA (xVar 1) (xConsA (xOp fMul (xOp fMul (xC (.int 4)) (xVar 3)) (xVar 3)) (xNilA)))) (xNilA))))) [12]) (xName 2))
  (xRet (xVar 2))))))))
def G_roots_of : GF := xDef 1 13 B_roots_of
def B_is_asking : GS := xSeq (xIfS (xOr (xNot (xT (xUn (fIsi "tuple") (xVar 0)))) (xOr (xT (xOp fNotIn (xBlt bLen (xConsA (xVar 0) (xNilA))) (xTup (xConsA (xC (.int 2)) (xConsA (xC (.int 3)) (xNilA)))))) (xNot (xT (xUn (fIsi "str") (xOp fIx (xVar 0) (xC (.int 0)))))))) (xRet (xC (.bl false))) (xNext))
  (xSeq (xIfS (xT (xOp fEq (xBlt bLen (xConsA (xVar 0) (xNilA))) (xC (.int 2)))) (xSeq (xIfS (xT (xOp fIn (xOp fIx (xVar 0) (xC (.int 0))) (xC cPLACED))) (xRet (xCall G_is_ahead (xConsA (xOp fIx (xVar 0) (xC (.int 1))) (xNilA)))) (xNext))
  (xRet (xAndV (xOp fIn (xOp fIx (xVar 0) (xC (.int 0))) (xC cBENT)) (xAndV (xCall G_is_ratio (xConsA (xOp fIx (xVar 0) (xC (.int 1))) (xNilA))) (xOp fGt (xOp fIx (xOp fIx (xVar 0) (xC (.int 1))) (xC (.int 0))) (xC (.int 0))))))) (xNext))
  (xSeq (xIfS (xT (xOp fEq (xOp fIx (xVar 0) (xC (.int 0))) (xC (.str "roof")))) (xRet (xAndV (xCall G_is_ahead (xConsA (xOp fIx (xVar 0) (xC (.int 1))) (xNilA))) (xAndV (xCall G_is_ahead (xConsA (xOp fIx (xVar 0) (xC (.int 2))) (xNilA))) (xCall G_is_nearer (xConsA (xOp fIx (xVar 0) (xC (.int 1))) (xConsA (xOp fIx (xVar 0) (xC (.int 2))) (xNilA))))))) (xNext))
  (xRet (xAndV (xOp fIn (xOp fIx (xVar 0) (xC (.int 0))) (xC cSTEEP)) (xAndV (xCall G_is_ratio (xConsA (xOp fIx (xVar 0) (xC (.int 1))) (xNilA))) (xAndV (xOp fGe (xOp fIx (xOp fIx (xVar 0) (xC (.int 1))) (xC (.int 0))) (xC (.int 0))) (xCall G_is_ratio (xConsA (xOp fIx (xVar 0) (xC (.int 2))) (xNilA)))))))))
def G_is_asking : GF := xDef 1 1 B_is_asking
def B_is_steep : GS := xRet (xAndV (xOp fIn (xOp fIx (xVar 0) (xC (.int 0))) (xC cSTEEP)) (xOp fEq (xOp fIx (xVar 0) (xC (.int 1))) (xC cZERO)))
def G_is_steep : GF := xDef 1 1 B_is_steep
def B_is_least : GS := xRet (xOp fIn (xOp fIx (xVar 0) (xC (.int 0))) (xC cLEAST))
def G_is_least : GF := xDef 1 1 B_is_least
def B_line_under : GS := xSeq (xAsg (xCall G_ratio_product (xConsA (xVar 0) (xConsA (xVar 0) (xNilA)))) (xName 2))
  (xRet (xTup (xConsA (xCall G_ratio_back (xConsA (xCall G_ratio_over (xConsA (xVar 1) (xConsA (xVar 2) (xNilA)))) (xNilA))) (xConsA (xCall G_ratio_over (xConsA (xC cONE) (xConsA (xVar 0) (xNilA)))) (xConsA (xC cZERO) (xNilA))))))
def G_line_under : GF := xDef 2 3 B_line_under
def B_joined : GS := xAlloc 1
  (xSeq (xFor (yLst (xVar 0)) (xTupG (xConsG (xName 2) (xConsG (xName 3) (xConsG (xName 4) (xNilG))))) (xIfS (xAnd (xNeNil 1) (xT (xOp fEq (xOp fIx (xIxC (xVar 1) (xUn fNeg (xC (.int 1)))) (xC (.int 2))) (xVar 4)))) (xSetC 1 (xUn fNeg (xC (.int 1))) (xTup (xConsA (xOp fIx (xIxC (xVar 1) (xUn fNeg (xC (.int 1)))) (xC (.int 0))) (xConsA (xVar 3) (xConsA (xVar 4) (xNilA)))))) (xApp 1 (xTup (xConsA (xVar 2) (xConsA (xVar 3) (xConsA (xVar 4) (xNilA))))))))
  (xRet (xVar 1)))
def G_joined : GF := xDef 1 5 B_joined
def B_roof_bound : GS := xSeq (xAsg (xCall G_way_between (xConsA (xVar 0) (xConsA (xVar 1) (xNilA)))) (xTupG (xConsG (xName 4) (xConsG (xName 5) (xNilG)))))
  (xSeq (xPar2 6 7 (xConsA (xCall G_far_of (xConsA (xVar 0) (xNilA))) (xConsA (xCall G_far_of (xConsA (xVar 1) (xNilA))) (xNilA))))
  (xSeq (xPar2 8 9 (xConsA (xCall G_line_under (xConsA (xVar 7) (xConsA (xCall G_tall_of (xConsA (xVar 1) (xNilA))) (xNilA)))) (xConsA (xCall G_line_under (xConsA (xVar 6) (xConsA (xCall G_tall_of (xConsA (xVar 0) (xNilA))) (xNilA)))) (xNilA))))
  (xSeq (xIfS (xT (xOp fLe (xOp fIx (xVar 4) (xC (.int 0))) (xC (.int 0)))) (xSeq (xAsg (xCall G_ratio_sum (xConsA (xVar 5) (xConsA (xCall G_ratio_sum (xConsA (xCall G_ratio_over (xConsA (xVar 4) (xConsA (xVar 6) (xNilA)))) (xConsA (xCall G_ratio_over (xConsA (xVar 4) (xConsA (xVar 7) (xNilA)))) (xNilA)))) (xNilA)))) (xName 10))
  (xRet (xCall G_joined (xConsA (xLst (xConsA (xTup (xConsA (xC .non) (xConsA (xVar 10) (xConsA (xVar 8) (xNilA))))) (xConsA (xTup (xConsA (xVar 10) (xConsA (xC .non) (xConsA (xVar 9) (xNilA))))) (xNilA)))) (xNilA))))) (xNext))
  (xSeq (xAsg (xLc (yTup (xTup (xConsA (xVar 7) (xConsA (xVar 6) (xNilA))))) (xName 13) (xYes) (xCall G_ratio_sum (xConsA (xVar 5) (xConsA (xCall G_ratio_over (xConsA (xCall G_ratio_product (xConsA (xC cTWO) (xConsA (xVar 4) (xNilA)))) (xConsA (xVar 13) (xNilA)))) (xNilA)))) [13]) (xLstG (xConsG (xName 11) (xConsG (xName 12) (xNilG)))))
  (xSeq (xAsg (xCall G_ratio_over (xConsA (xC cONE) (xConsA (xCall G_ratio_product (xConsA (xC cFOUR) (xConsA (xVar 4) (xNilA)))) (xNilA)))) (xName 2))
  (xSeq (xAsg (xTup (xConsA (xCall G_ratio_product (xConsA (xVar 2) (xConsA (xCall G_ratio_product (xConsA (xVar 5) (xConsA (xVar 5) (xNilA)))) (xNilA)))) (xConsA (xCall G_ratio_product (xConsA (xCall G_ratio_back (xConsA (xCall G_ratio_product (xConsA (xC cTWO) (xConsA (xVar 5) (xNilA)))) (xNilA))) (xConsA (xVar 2) (xNilA)))) (xConsA (xVar 2) (xNilA))))) (xName 3))
  (xRet (xLst (xConsA (xTup (xConsA (xC .non) (xConsA (xVar 11) (xConsA (xVar 8) (xNilA))))) (xConsA (xTup (xConsA (xVar 11) (xConsA (xVar 12) (xConsA (xVar 3) (xNilA))))) (xConsA (xTup (xConsA (xVar 12) (xConsA (xC .non) (xConsA (xVar 9) (xNilA))))) (xNilA))))))))))))
def G_roof_bound : GF := xDef 2 14 B_roof_bound
def B_parts_of : GS := xSeq (xAsg (xOp fIx (xVar 0) (xC (.int 0))) (xName 1))
  (xSeq (xIfS (xT (xOp fIn (xVar 1) (xC cPLACED))) (xRet (xLst (xConsA (xTup (xConsA (xC .non) (xConsA (xC .non) (xConsA (xCall G_line_under (xConsA (xCall G_far_of (xConsA (xOp fIx (xVar 0) (xC (.int 1))) (xNilA))) (xConsA (xCall G_tall_of (xConsA (xOp fIx (xVar 0) (xC (.int 1))) (xNilA))) (xNilA)))) (xNilA))))) (xNilA)))) (xNext))
  (xSeq (xIfS (xT (xOp fEq (xVar 1) (xC (.str "roof")))) (xRet (xCall G_roof_bound (xConsA (xOp fIx (xVar 0) (xC (.int 1))) (xConsA (xOp fIx (xVar 0) (xC (.int 2))) (xNilA))))) (xNext))
  (xSeq (xIfS (xT (xOp fEq (xVar 1) (xC (.str "low")))) (xSeq (xAsg (xTup (xConsA (xC cZERO) (xConsA (xC cZERO) (xConsA (xCall G_ratio_over (xConsA (xC cONE) (xConsA (xCall G_ratio_product (xConsA (xC cFOUR) (xConsA (xOp fIx (xVar 0) (xC (.int 1))) (xNilA)))) (xNilA)))) (xNilA))))) (xName 2))
  (xRet (xLst (xConsA (xTup (xConsA (xC .non) (xConsA (xC cZERO) (xConsA (xTup (xConsA (xC cZERO) (xConsA (xC cZERO) (xConsA (xC cZERO) (xNilA))))) (xNilA))))) (xConsA (xTup (xConsA (xC cZERO) (xConsA (xC .non) (xConsA (xVar 2) (xNilA))))) (xNilA)))))) (xNext))
  (xSeq (xIfS (xT (xOp fIn (xVar 1) (xC cSTEEP))) (xSeq (xIfS (xT (xOp fEq (xOp fIx (xVar 0) (xC (.int 1))) (xC cZERO))) (xRet (xLst (xNilA))) (xNext))
  (xSeq (xAsg (xCall G_ratio_over (xConsA (xC cONE) (xConsA (xCall G_ratio_product (xConsA (xC cTWO) (xConsA (xOp fIx (xVar 0) (xC (.int 1))) (xNilA)))) (xNilA)))) (xName 3))
  (xRet (xLst (xConsA (xTup (xConsA (xC .non) (xConsA (xC .non) (xConsA (xTup (xConsA (xCall G_ratio_back (xConsA (xCall G_ratio_product (xConsA (xVar 3) (xConsA (xOp fIx (xVar 0) (xC (.int 2))) (xNilA)))) (xNilA))) (xConsA (xVar 3) (xConsA (xC cZERO) (xNilA))))) (xNilA))))) (xNilA)))))) (xNext))
  (xRet (xLst (xConsA (xTup (xConsA (xC .non) (xConsA (xC .non) (xConsA (xTup (xConsA (xOp fIx (xVar 0) (xC (.int 1))) (xConsA (xC cZERO) (xConsA (xC cZERO) (xNilA))))) (xNilA))))) (xNilA))))))))
def G_parts_of : GF := xDef 1 4 B_parts_of
def B_head_parts : GS := xSeq (xAsg (xCall G_ratio_over (xConsA (xC cONE) (xConsA (xCall G_ratio_product (xConsA (xC cFOUR) (xConsA (xVar 0) (xNilA)))) (xNilA)))) (xName 1))
  (xRet (xLst (xConsA (xTup (xConsA (xC .non) (xConsA (xC .non) (xConsA (xTup (xConsA (xVar 1) (xConsA (xC cZERO) (xConsA (xVar 1) (xNilA))))) (xNilA))))) (xNilA))))
def G_head_parts : GF := xDef 1 2 B_head_parts
def B_slopes_let : GS := xSeq (xAsg (xTup (xConsA (xC .non) (xConsA (xC .non) (xNilA)))) (xTupG (xConsG (xName 2) (xConsG (xName 3) (xNilG)))))
  (xSeq (xFor (yTup (xVar 0)) (xName 1) (xSeq (xIfS (xAnd (xT (xCall G_is_steep (xConsA (xVar 1) (xNilA)))) (xT (xOp fEq (xOp fIx (xVar 1) (xC (.int 0))) (xC (.str "climbs"))))) (xAsg (xIf (xOr (xT (xUn fIsN (xVar 2))) (xT (xCall G_is_lower (xConsA (xVar 2) (xConsA (xOp fIx (xVar 1) (xC (.int 2))) (xNilA)))))) (xOp fIx (xVar 1) (xC (.int 2))) (xVar 2)) (xName 2)) (xNext))
  (xIfS (xAnd (xT (xCall G_is_steep (xConsA (xVar 1) (xNilA)))) (xT (xOp fEq (xOp fIx (xVar 1) (xC (.int 0))) (xC (.str "dives"))))) (xAsg (xIf (xOr (xT (xUn fIsN (xVar 3))) (xT (xCall G_is_lower (xConsA (xOp fIx (xVar 1) (xC (.int 2))) (xConsA (xVar 3) (xNilA)))))) (xOp fIx (xVar 1) (xC (.int 2))) (xVar 3)) (xName 3)) (xNext))))
  (xRet (xTup (xConsA (xVar 2) (xConsA (xVar 3) (xNilA))))))
def G_slopes_let : GF := xDef 1 4 B_slopes_let
def B_check_head : GS := xIfS (xOr (xNot (xT (xCall G_is_ratio (xConsA (xVar 0) (xNilA))))) (xT (xOp fLe (xOp fIx (xVar 0) (xC (.int 0))) (xC (.int 0))))) (xNever) (xNext)
def G_check_head : GF := xDef 1 1 B_check_head
def B_check_place : GS := xIfS (xNot (xT (xCall G_is_ahead (xConsA (xVar 0) (xNilA))))) (xNever) (xNext)
def G_check_place : GF := xDef 1 1 B_check_place
def B_check_asks : GS := xSeq (xIfS (xNot (xT (xUn (fIsi "tuple") (xVar 0)))) (xNever) (xNext))
  (xFor (yEnum (xVar 0)) (xTupG (xConsG (xName 1) (xConsG (xName 2) (xNilG)))) (xIfS (xOr (xT (xOp fEq (xVar 1) (xC cMOST_ASKS))) (xNot (xT (xCall G_is_asking (xConsA (xVar 2) (xNilA)))))) (xNever) (xNext)))
def G_check_asks : GF := xDef 1 3 B_check_asks
def B_as_surd : GS := xRet (xIf (xT (xUn fIsN (xVar 0))) (xC .non) (xCall G_plain (xConsA (xVar 0) (xNilA))))
def G_as_surd : GF := xDef 1 1 B_as_surd
def B_met : GS := xSeq (xIfS (xOr (xT (xUn fIsN (xVar 0))) (xT (xUn fIsN (xVar 1)))) (xRet (xC .non)) (xNext))
  (xSeq (xAsg (xLc (yTup (xTup (xConsA (xOp fIx (xVar 0) (xC (.int 0))) (xConsA (xOp fIx (xVar 1) (xC (.int 0))) (xNilA))))) (xName 6) (xT (xUn fNotN (xVar 6))) (xVar 6) [6]) (xName 2))
  (xSeq (xAsg (xLc (yTup (xTup (xConsA (xOp fIx (xVar 0) (xC (.int 1))) (xConsA (xOp fIx (xVar 1) (xC (.int 1))) (xNilA))))) (xName 6) (xT (xUn fNotN (xVar 6))) (xVar 6) [6]) (xName 3))
  (xSeq (xAsg (xIf (xT (xOp fEq (xVar 2) (xLst (xNilA)))) (xC .non) (xCall G_higher_surd (xConsA (xOp fIx (xVar 2) (xC (.int 0))) (xConsA (xOp fIx (xVar 2) (xUn fNeg (xC (.int 1)))) (xNilA))))) (xName 4))
  (xSeq (xAsg (xIf (xT (xOp fEq (xVar 3) (xLst (xNilA)))) (xC .non) (xCall G_lower_surd (xConsA (xOp fIx (xVar 3) (xC (.int 0))) (xConsA (xOp fIx (xVar 3) (xUn fNeg (xC (.int 1)))) (xNilA))))) (xName 5))
  (xRet (xIf (xAnd (xT (xUn fNotN (xVar 4))) (xAnd (xT (xUn fNotN (xVar 5))) (xT (xOp fLt (xCall G_compared (xConsA (xVar 5) (xConsA (xVar 4) (xNilA)))) (xC (.int 0)))))) (xC .non) (xTup (xConsA (xVar 4) (xConsA (xVar 5) (xNilA))))))))))
def G_met : GF := xDef 2 7 B_met
def B_spread : GS := xSeq (xIfS (xOr (xT (xUn fIsN (xVar 0))) (xT (xUn fIsN (xVar 1)))) (xRet (xIf (xT (xUn fIsN (xVar 0))) (xVar 1) (xVar 0))) (xNext))
  (xSeq (xAsg (xIf (xOr (xT (xUn fIsN (xOp fIx (xVar 0) (xC (.int 0))))) (xT (xUn fIsN (xOp fIx (xVar 1) (xC (.int 0)))))) (xC .non) (xCall G_lower_surd (xConsA (xOp fIx (xVar 0) (xC (.int 0))) (xConsA (xOp fIx (xVar 1) (xC (.int 0))) (xNilA))))) (xName 2))
  (xRet (xTup (xConsA (xVar 2) (xConsA (xIf (xOr (xT (xUn fIsN (xOp fIx (xVar 0) (xC (.int 1))))) (xT (xUn fIsN (xOp fIx (xVar 1) (xC (.int 1)))))) (xC .non) (xCall G_higher_surd (xConsA (xOp fIx (xVar 0) (xC (.int 1))) (xConsA (xOp fIx (xVar 1) (xC (.int 1))) (xNilA))))) (xNilA))))))
def G_spread : GF := xDef 2 3 B_spread
def B_kept_side : GS := xSeq (xIfS (xAnd (xT (xOp fEq (xOp fIx (xOp fIx (xVar 0) (xC (.int 1))) (xC (.int 0))) (xC (.int 0)))) (xT (xOp fEq (xOp fIx (xOp fIx (xVar 0) (xC (.int 2))) (xC (.int 0))) (xC (.int 0))))) (xRet (xIf (xT (xOp fGe (xOp fIx (xOp fIx (xVar 0) (xC (.int 0))) (xC (.int 0))) (xC (.int 0)))) (xTup (xConsA (xC .non) (xConsA (xC .non) (xNilA)))) (xC .non))) (xNext))
  (xSeq (xAsg (xCall G_roots_of (xConsA (xVar 0) (xNilA))) (xName 1))
  (xSeq (xIfS (xT (xOp fEq (xOp fIx (xOp fIx (xVar 0) (xC (.int 2))) (xC (.int 0))) (xC (.int 0)))) (xRet (xIf (xT (xOp fGt (xOp fIx (xOp fIx (xVar 0) (xC (.int 1))) (xC (.int 0))) (xC (.int 0)))) (xTup (xConsA (xOp fIx (xVar 1) (xC (.int 0))) (xConsA (xC .non) (xNilA)))) (xTup (xConsA (xC .non) (xConsA (xOp fIx (xVar 1) (xC (.int 0))) (xNilA)))))) (xNext))
  (xRet (xIf (xT (xOp fEq (xVar 1) (xLst (xNilA)))) (xC .non) (xTup (xConsA (xOp fIx (xVar 1) (xC (.int 0))) (xConsA (xOp fIx (xVar 1) (xUn fNeg (xC (.int 1)))) (xNilA))))))))
def G_kept_side : GF := xDef 1 2 B_kept_side
def B_below_stretch : GS := xSeq (xAsg (xC .non) (xName 2))
  (xSeq (xFor (yLst (xVar 0)) (xTupG (xConsG (xName 3) (xConsG (xName 4) (xConsG (xName 5) (xNilG))))) (xSeq (xAsg (xCall G_met (xConsA (xCall G_kept_side (xConsA (xCall G_bent_less (xConsA (xVar 1) (xConsA (xVar 5) (xNilA)))) (xNilA))) (xConsA (xTup (xConsA (xCall G_as_surd (xConsA (xVar 3) (xNilA))) (xConsA (xCall G_as_surd (xConsA (xVar 4) (xNilA))) (xNilA)))) (xNilA)))) (xName 6))
  (xAsg (xCall G_spread (xConsA (xVar 2) (xConsA (xVar 6) (xNilA)))) (xName 2))))
  (xRet (xVar 2)))
def G_below_stretch : GF := xDef 2 7 B_below_stretch
def B_stretch : GS := xSeq (xAsg (xUn (fFld "let") (xVar 0)) (xTupG (xConsG (xName 2) (xConsG (xName 3) (xNilG)))))
  (xSeq (xAsg (xCall G_met (xConsA (xTup (xConsA (xCall G_as_surd (xConsA (xVar 2) (xNilA))) (xConsA (xC .non) (xNilA)))) (xConsA (xTup (xConsA (xC .non) (xConsA (xCall G_as_surd (xConsA (xVar 3) (xNilA))) (xNilA)))) (xNilA)))) (xName 1))
  (xSeq (xFor (yLst (xUn (fFld "lowers") (xVar 0))) (xTupG (xConsG (xName 4) (xConsG (xName 5) (xNilG)))) (xFor (yLst (xUn (fFld "uppers") (xVar 0))) (xTupG (xConsG (xName 6) (xConsG (xName 7) (xNilG)))) (xAsg (xCall G_met (xConsA (xVar 1) (xConsA (xCall G_below_stretch (xConsA (xVar 5) (xConsA (xVar 7) (xNilA)))) (xNilA)))) (xName 1))))
  (xRet (xVar 1))))
def G_stretch : GF := xDef 1 8 B_stretch
def B_init1 : GS := xAsg (xLc (yEnum (xVar 2)) (xTupG (xConsG (xName 5) (xConsG (xName 6) (xNilG)))) (xNot (xT (xCall G_is_steep (xConsA (xVar 6) (xNilA))))) (xTup (xConsA (xVar 5) (xConsA (xCall G_parts_of (xConsA (xVar 6) (xNilA))) (xConsA (xCall G_is_least (xConsA (xVar 6) (xNilA))) (xNilA))))) [5, 6]) (xName 3)
def B_init2 : GS := xAsg (xIf (xT (xUn fIsN (xVar 1))) (xLst (xConsA (xTup (xConsA (xC .non) (xConsA (xC .non) (xConsA (xC cNOTHING) (xNilA))))) (xNilA))) (xCall G_head_parts (xConsA (xVar 1) (xNilA)))) (xName 4)
def E_lowers : GE := xOp fAdd (xLst (xConsA (xTup (xConsA (xC .non) (xConsA (xVar 4) (xNilA)))) (xNilA))) (xLc (yLst (xVar 3)) (xTupG (xConsG (xName 5) (xConsG (xName 7) (xConsG (xName 8) (xNilG))))) (xT (xVar 8)) (xTup (xConsA (xVar 5) (xConsA (xVar 7) (xNilA)))) [5, 7, 8])
def E_uppers : GE := xLc (yLst (xVar 3)) (xTupG (xConsG (xName 5) (xConsG (xName 7) (xConsG (xName 8) (xNilG))))) (xNot (xT (xVar 8))) (xTup (xConsA (xVar 5) (xConsA (xOp fIx (xOp fIx (xVar 7) (xC (.int 0))) (xC (.int 2))) (xNilA)))) [5, 7, 8]
def E_let : GE := xCall G_slopes_let (xConsA (xVar 2) (xNilA))
def B_bounds : GS := xSeq B_init1 (xSeq B_init2 (xRet (xIns E_lowers E_uppers E_let)))
def G_bounds : GF := xDefO 9 B_bounds
def G_slopes0 : GF := fun as w => (G_bounds as w).bind fun p => G_stretch [p.1] p.2
def G_slopes_of : GF := xDef 2 2 (xRet (xCall G_slopes0 (xConsA (xVar 0) (xConsA (xVar 1) xNilA))))
def B_check_target : GS := xSeq (xDrop (xCall G_check_head (xConsA (xVar 0) (xNilA))))
  (xSeq (xDrop (xCall G_check_asks (xConsA (xVar 1) (xNilA))))
  (xDrop (xCall G_check_place (xConsA (xVar 2) (xNilA)))))
def G_check_target : GF := xDef 3 3 B_check_target
def B_with_place : GS := xRet (xTup (xStarA (xVar 0) (xConsA (xTup (xConsA (xC (.str "over")) (xConsA (xVar 1) (xNilA)))) (xConsA (xTup (xConsA (xC (.str "under")) (xConsA (xVar 1) (xNilA)))) (xNilA)))))
def G_with_place : GF := xDef 2 2 B_with_place
def B_is_guard : GS := xSeq (xIfS (xOr (xNot (xT (xUn (fIsi "tuple") (xVar 0)))) (xOr (xT (xOp fNe (xBlt bLen (xConsA (xVar 0) (xNilA))) (xC (.int 2)))) (xOr (xNot (xT (xUn (fIsi "str") (xOp fIx (xVar 0) (xC (.int 0)))))) (xT (xUn fNotPassed (xOp fIx (xVar 0) (xC (.int 0)))))))) (xRet (xC (.bl false))) (xNext))
  (xRet (xCall G_is_ahead (xConsA (xOp fIx (xVar 0) (xC (.int 1))) (xNilA))))
def G_is_guard : GF := xDef 1 1 B_is_guard
def B_check_guards : GS := xSeq (xIfS (xOr (xNot (xT (xUn (fIsi "tuple") (xVar 0)))) (xT (xOp fEq (xVar 0) (xTup (xNilA))))) (xNever) (xNext))
  (xFor (yEnum (xVar 0)) (xTupG (xConsG (xName 1) (xConsG (xName 2) (xNilG)))) (xIfS (xOr (xT (xOp fEq (xVar 1) (xC cMOST_GUARDS))) (xNot (xT (xCall G_is_guard (xConsA (xVar 2) (xNilA)))))) (xNever) (xNext)))
def G_check_guards : GF := xDef 1 3 B_check_guards
def B_check_guarded : GS := xSeq (xDrop (xCall G_check_target (xConsA (xVar 0) (xConsA (xVar 1) (xConsA (xVar 2) (xNilA))))))
  (xSeq (xDrop (xCall G_check_guards (xConsA (xVar 3) (xNilA))))
  (xFor (yTup (xVar 3)) (xName 4) (xIfS (xNot (xT (xCall G_is_nearer (xConsA (xOp fIx (xVar 4) (xC (.int 1))) (xConsA (xVar 2) (xNilA)))))) (xNever) (xNext))))
def G_check_guarded : GF := xDef 4 5 B_check_guarded
def B_guards_hold : GS := xSeq (xAsg (xLc (yTup (xVar 3)) (xTupG (xConsG (xName 5) (xConsG (xName 6) (xNilG)))) (xYes) (xTup (xConsA (xUn fPassed (xVar 5)) (xConsA (xVar 6) (xNilA)))) [5, 6]) (xName 4))
  (xRet (xUn fIsN (xCall G_slopes_of (xConsA (xVar 0) (xConsA (xTup (xStarA (xCall G_with_place (xConsA (xVar 1) (xConsA (xVar 2) (xNilA)))) (xStarA (xVar 4) (xNilA)))) (xNilA))))))
def G_guards_hold : GF := xDef 4 7 B_guards_hold
def B_is_guarded : GS := xSeq (xDrop (xCall G_check_guarded (xConsA (xVar 0) (xConsA (xVar 1) (xConsA (xVar 2) (xConsA (xVar 3) (xNilA)))))))
  (xRet (xCall G_guards_hold (xConsA (xVar 0) (xConsA (xVar 1) (xConsA (xVar 2) (xConsA (xVar 3) (xNilA)))))))
def G_is_guarded : GF := xDef 4 4 B_is_guarded
def B_fewest_guards : GS := xSeq (xDrop (xCall G_check_guarded (xConsA (xVar 0) (xConsA (xVar 1) (xConsA (xVar 2) (xConsA (xVar 3) (xNilA)))))))
  (xSeq (xIfS (xT (xCall G_guards_hold (xConsA (xVar 0) (xConsA (xVar 1) (xConsA (xVar 2) (xConsA (xTup (xNilA)) (xNilA))))))) (xRet (xTup (xNilA))) (xNext))
  (xSeq (xFor (yEnum (xVar 3)) (xTupG (xConsG (xName 4) (xConsG (xName 5) (xNilG)))) (xIfS (xT (xCall G_guards_hold (xConsA (xVar 0) (xConsA (xVar 1) (xConsA (xVar 2) (xConsA (xTup (xConsA (xVar 5) (xNilA))) (xNilA))))))) (xRet (xTup (xConsA (xVar 4) (xNilA)))) (xNext)))
  (xSeq (xFor (yRng1 (xBlt bLen (xConsA (xVar 3) (xNilA)))) (xName 4) (xFor (yRng2 (xOp fAdd (xVar 4) (xC (.int 1))) (xBlt bLen (xConsA (xVar 3) (xNilA)))) (xName 6) (xIfS (xT (xCall G_guards_hold (xConsA (xVar 0) (xConsA (xVar 1) (xConsA (xVar 2) (xConsA (xTup (xConsA (xOp fIx (xVar 3) (xVar 4)) (xConsA (xOp fIx (xVar 3) (xVar 6)) (xNilA)))) (xNilA))))))) (xRet (xTup (xConsA (xVar 4) (xConsA (xVar 6) (xNilA))))) (xNext))))
  (xRet (xC .non)))))
def G_fewest_guards : GF := xDef 4 7 B_fewest_guards
-- by hand: _law_well
def B__law_draw : GS := xSeq (xIfS (xT (xOp fGt (xIxC (xVar 0) (xC (.int 0))) (xC (.int 0)))) (xSeq (xDivC 0 0 3 (xIxC (xVar 0) (xC (.int 0))) (xVar 1))
  (xRet (xVar 3))) (xNext))
  (xSeq (xSetC 0 (xC (.int 2)) (xOp fAdd (xIxC (xVar 0) (xC (.int 2))) (xC (.int 1))))
  (xSeq (xAsg (xOp fMod (xBlt bInt (xConsA (xOp fAdd (xOp fAdd (xOp fMul (xIxC (xVar 0) (xC (.int 1))) (xC (.int 37))) (xOp fMul (xC (.int 80021)) (xIxC (xVar 0) (xC (.int 2))))) (xC (.int 11))) (xNilA))) (xC (.int 1000000123))) (xName 2))
  (xSeq (xSetC 0 (xC (.int 1)) (xOp fMod (xBlt bInt (xConsA (xOp fAdd (xOp fMul (xVar 2) (xOp fAdd (xOp fMod (xBlt bInt (xConsA (xVar 2) (xNilA))) (xC (.int 6961))) (xC (.int 21001)))) (xOp fMul (xC (.int 29)) (xIxC (xVar 0) (xC (.int 2))))) (xNilA))) (xC (.int 1000000123))))
  (xRet (xOp fMod (xBlt bInt (xConsA (xOp fDivN (xIxC (xVar 0) (xC (.int 1))) (xC (.int 191))) (xNilA))) (xVar 1))))))
def G__law_draw : GF := xDef 2 4 B__law_draw
def B__law_rounds : GS := xRet (xBlt bMax (xConsA (xVar 1) (xConsA (xBlt bMin (xConsA (xBlt bLen (xConsA (xVar 0) (xNilA))) (xConsA (xVar 2) (xNilA)))) (xNilA))))
def G__law_rounds : GF := xDef 3 3 B__law_rounds
def B__law_pick : GS := xRet (xOp fIx (xVar 1) (xCall G__law_draw (xConsA (xVar 0) (xConsA (xBlt bLen (xConsA (xVar 1) (xNilA))) (xNilA)))))
def G__law_pick : GF := xDef 2 2 B__law_pick
def B__law_common : GS := xSeq (xAsg (xC (.int 0)) (xName 1))
  (xSeq (xFor (yTup (xVar 0)) (xName 2) (xSeq (xPar2 4 5 (xConsA (xVar 1) (xConsA (xBlt bAbs (xConsA (xVar 2) (xNilA))) (xNilA))))
  (xSeq (xFor (yRng1 (xOp fAdd (xOp fMul (xC (.int 2)) (xUn fBits (xBlt bAbs (xConsA (xVar 2) (xNilA))))) (xC (.int 2)))) (xName 3) (xSeq (xIfS (xT (xOp fEq (xVar 5) (xC (.int 0)))) (xBrk) (xNext))
  (xPar2 4 5 (xConsA (xVar 5) (xConsA (xOp fMod (xBlt bInt (xConsA (xVar 4) (xNilA))) (xVar 5)) (xNilA))))))
  (xAsg (xVar 4) (xName 1)))))
  (xRet (xVar 1)))
def G__law_common : GF := xDef 1 6 B__law_common
def B__law_lean : GS := xSeq (xAsg (xBlt bMax (xConsA (xC (.int 1)) (xConsA (xCall G__law_common (xConsA (xVar 0) (xNilA))) (xNilA)))) (xName 1))
  (xRet (xBlt bTuple (xConsA (xLc (yTup (xVar 0)) (xName 2) (xYes) (xOp fDivN (xVar 2) (xVar 1)) [2]) (xNilA))))
def G__law_lean : GF := xDef 1 3 B__law_lean
def B__law_ratio : GS := xRet (xIf (xT (xOp fGt (xVar 1) (xC (.int 0)))) (xCall G__law_lean (xConsA (xTup (xConsA (xVar 0) (xConsA (xVar 1) (xNilA)))) (xNilA))) (xCall G__law_lean (xConsA (xTup (xConsA (xOp fSub (xC (.int 0)) (xVar 0)) (xConsA (xOp fSub (xC (.int 0)) (xVar 1)) (xNilA)))) (xNilA))))
def G__law_ratio : GF := xDef 2 2 B__law_ratio
def B__law_plus : GS := xRet (xCall G__law_ratio (xConsA (xOp fAdd (xOp fMul (xOp fIx (xVar 0) (xC (.int 0))) (xOp fIx (xVar 1) (xC (.int 1)))) (xOp fMul (xOp fIx (xVar 1) (xC (.int 0))) (xOp fIx (xVar 0) (xC (.int 1))))) (xConsA (xOp fMul (xOp fIx (xVar 0) (xC (.int 1))) (xOp fIx (xVar 1) (xC (.int 1)))) (xNilA))))
def G__law_plus : GF := xDef 2 2 B__law_plus
def B__law_less : GS := xRet (xCall G__law_ratio (xConsA (xOp fSub (xOp fMul (xOp fIx (xVar 0) (xC (.int 0))) (xOp fIx (xVar 1) (xC (.int 1)))) (xOp fMul (xOp fIx (xVar 1) (xC (.int 0))) (xOp fIx (xVar 0) (xC (.int 1))))) (xConsA (xOp fMul (xOp fIx (xVar 0) (xC (.int 1))) (xOp fIx (xVar 1) (xC (.int 1)))) (xNilA))))
def G__law_less : GF := xDef 2 2 B__law_less
def B__law_times : GS := xRet (xCall G__law_ratio (xConsA (xOp fMul (xOp fIx (xVar 0) (xC (.int 0))) (xOp fIx (xVar 1) (xC (.int 0)))) (xConsA (xOp fMul (xOp fIx (xVar 0) (xC (.int 1))) (xOp fIx (xVar 1) (xC (.int 1)))) (xNilA))))
def G__law_times : GF := xDef 2 2 B__law_times
def B__law_over : GS := xRet (xCall G__law_ratio (xConsA (xOp fMul (xOp fIx (xVar 0) (xC (.int 0))) (xOp fIx (xVar 1) (xC (.int 1)))) (xConsA (xOp fMul (xOp fIx (xVar 0) (xC (.int 1))) (xOp fIx (xVar 1) (xC (.int 0)))) (xNilA))))
def G__law_over : GF := xDef 2 2 B__law_over
def B__law_sign : GS := xRet (xOp fSub (xBlt bInt (xConsA (xOp fGt (xVar 0) (xC (.int 0))) (xNilA))) (xBlt bInt (xConsA (xOp fLt (xVar 0) (xC (.int 0))) (xNilA))))
def G__law_sign : GF := xDef 1 1 B__law_sign
def B__law_root_sign : GS := xRet (xCall G__law_sign (xConsA (xOp fAdd (xOp fMul (xVar 0) (xBlt bAbs (xConsA (xVar 0) (xNilA)))) (xOp fMul (xOp fMul (xVar 1) (xBlt bAbs (xConsA (xVar 1) (xNilA)))) (xVar 2))) (xNilA)))
def G__law_root_sign : GF := xDef 3 3 B__law_root_sign
def B__law_surd_order : GS := xSeq (xPar3 4 5 6 (xConsA (xOp fSub (xOp fMul (xOp fIx (xVar 0) (xC (.int 0))) (xOp fIx (xVar 1) (xC (.int 3)))) (xOp fMul (xOp fIx (xVar 1) (xC (.int 0))) (xOp fIx (xVar 0) (xC (.int 3))))) (xConsA (xOp fMul (xOp fIx (xVar 0) (xC (.int 1))) (xOp fIx (xVar 1) (xC (.int 3)))) (xConsA (xOp fSub (xC (.int 0)) (xOp fMul (xOp fIx (xVar 1) (xC (.int 1))) (xOp fIx (xVar 0) (xC (.int 3))))) (xNilA)))))
  (xSeq (xAsg (xCall G__law_sign (xConsA (xOp fAdd (xOp fMul (xOp fMul (xVar 5) (xBlt bAbs (xConsA (xVar 5) (xNilA)))) (xOp fIx (xVar 0) (xC (.int 2)))) (xOp fMul (xOp fMul (xVar 6) (xBlt bAbs (xConsA (xVar 6) (xNilA)))) (xOp fIx (xVar 1) (xC (.int 2))))) (xNilA))) (xName 2))
  (xSeq (xIfS (xT (xOp fGe (xOp fMul (xVar 2) (xCall G__law_sign (xConsA (xVar 4) (xNilA)))) (xC (.int 0)))) (xRet (xCall G__law_sign (xConsA (xOp fAdd (xVar 2) (xOp fMul (xC (.int 2)) (xCall G__law_sign (xConsA (xVar 4) (xNilA))))) (xNilA)))) (xNext))
  (xSeq (xAsg (xOp fSub (xOp fSub (xOp fMul (xVar 4) (xVar 4)) (xOp fMul (xOp fMul (xVar 5) (xVar 5)) (xOp fIx (xVar 0) (xC (.int 2))))) (xOp fMul (xOp fMul (xVar 6) (xVar 6)) (xOp fIx (xVar 1) (xC (.int 2))))) (xName 3))
  (xRet (xOp fMul (xCall G__law_sign (xConsA (xVar 4) (xNilA))) (xCall G__law_root_sign (xConsA (xVar 3) (xConsA (xOp fSub (xC (.int 0)) (xOp fMul (xOp fMul (xC (.int 2)) (xVar 5)) (xVar 6))) (xConsA (xOp fMul (xOp fIx (xVar 0) (xC (.int 2))) (xOp fIx (xVar 1) (xC (.int 2)))) (xNilA))))))))))
def G__law_surd_order : GF := xDef 2 7 B__law_surd_order
def B__law_plain : GS := xRet (xTup (xConsA (xOp fIx (xVar 0) (xC (.int 0))) (xConsA (xC (.int 0)) (xConsA (xC (.int 0)) (xConsA (xOp fIx (xVar 0) (xC (.int 1))) (xNilA))))))
def G__law_plain : GF := xDef 1 1 B__law_plain
def B__law_place : GS := xRet (xCall G__law_lean (xConsA (xTup (xConsA (xOp fMul (xOp fIx (xVar 0) (xC (.int 0))) (xOp fIx (xVar 1) (xC (.int 1)))) (xConsA (xOp fMul (xOp fIx (xVar 1) (xC (.int 0))) (xOp fIx (xVar 0) (xC (.int 1)))) (xConsA (xOp fMul (xOp fIx (xVar 0) (xC (.int 1))) (xOp fIx (xVar 1) (xC (.int 1)))) (xNilA))))) (xNilA)))
def G__law_place : GF := xDef 2 2 B__law_place
def B__law_apart : GS := xRet (xTup (xConsA (xCall G__law_ratio (xConsA (xOp fIx (xVar 0) (xC (.int 0))) (xConsA (xOp fIx (xVar 0) (xC (.int 2))) (xNilA)))) (xConsA (xCall G__law_ratio (xConsA (xOp fIx (xVar 0) (xC (.int 1))) (xConsA (xOp fIx (xVar 0) (xC (.int 2))) (xNilA)))) (xNilA))))
def G__law_apart : GF := xDef 1 1 B__law_apart
def B__law_high : GS := xRet (xCall G__law_times (xConsA (xVar 1) (xConsA (xCall G__law_less (xConsA (xOp fIx (xVar 0) (xC (.int 0))) (xConsA (xCall G__law_times (xConsA (xOp fIx (xVar 0) (xC (.int 1))) (xConsA (xVar 1) (xNilA)))) (xNilA)))) (xNilA))))
def G__law_high : GF := xDef 2 2 B__law_high
def B__law_steep : GS := xRet (xCall G__law_less (xConsA (xOp fIx (xVar 0) (xC (.int 0))) (xConsA (xCall G__law_times (xConsA (xTup (xConsA (xC (.int 2)) (xConsA (xC (.int 1)) (xNilA)))) (xConsA (xCall G__law_times (xConsA (xOp fIx (xVar 0) (xC (.int 1))) (xConsA (xVar 1) (xNilA)))) (xNilA)))) (xNilA))))
def G__law_steep : GF := xDef 2 2 B__law_steep
def B__law_own_head : GS := xRet (xCall G__law_over (xConsA (xCall G__law_plus (xConsA (xTup (xConsA (xC (.int 1)) (xConsA (xC (.int 1)) (xNilA)))) (xConsA (xCall G__law_times (xConsA (xOp fIx (xVar 0) (xC (.int 0))) (xConsA (xOp fIx (xVar 0) (xC (.int 0))) (xNilA)))) (xNilA)))) (xConsA (xCall G__law_times (xConsA (xTup (xConsA (xC (.int 4)) (xConsA (xC (.int 1)) (xNilA)))) (xConsA (xOp fIx (xVar 0) (xC (.int 1))) (xNilA)))) (xNilA))))
def G__law_own_head : GF := xDef 1 1 B__law_own_head
def B__law_line : GS := xSeq (xAsg (xCall G__law_apart (xConsA (xVar 0) (xNilA))) (xTupG (xConsG (xName 3) (xConsG (xName 4) (xNilG)))))
  (xSeq (xAsg (xCall G__law_apart (xConsA (xVar 1) (xNilA))) (xTupG (xConsG (xName 5) (xConsG (xName 6) (xNilG)))))
  (xSeq (xAsg (xCall G__law_over (xConsA (xCall G__law_less (xConsA (xVar 6) (xConsA (xVar 4) (xNilA)))) (xConsA (xCall G__law_less (xConsA (xVar 5) (xConsA (xVar 3) (xNilA)))) (xNilA)))) (xName 2))
  (xRet (xTup (xConsA (xCall G__law_less (xConsA (xVar 4) (xConsA (xCall G__law_times (xConsA (xVar 2) (xConsA (xVar 3) (xNilA)))) (xNilA)))) (xConsA (xVar 2) (xNilA)))))))
def G__law_line : GF := xDef 2 7 B__law_line
def B__law_bound : GS := xSeq (xAsg (xOp fMul (xOp fMul (xOp fIx (xVar 0) (xC (.int 1))) (xOp fIx (xVar 1) (xC (.int 1)))) (xOp fIx (xVar 2) (xC (.int 1)))) (xName 3))
  (xRet (xTup (xConsA (xOp fMul (xOp fMul (xOp fIx (xVar 0) (xC (.int 0))) (xOp fIx (xVar 1) (xC (.int 1)))) (xOp fIx (xVar 2) (xC (.int 1)))) (xConsA (xOp fMul (xOp fMul (xOp fIx (xVar 1) (xC (.int 0))) (xOp fIx (xVar 0) (xC (.int 1)))) (xOp fIx (xVar 2) (xC (.int 1)))) (xConsA (xOp fMul (xOp fMul (xOp fIx (xVar 2) (xC (.int 0))) (xOp fIx (xVar 0) (xC (.int 1)))) (xOp fIx (xVar 1) (xC (.int 1)))) (xConsA (xVar 3) (xNilA)))))))
def G__law_bound : GF := xDef 3 4 B__law_bound
def B__law_place_bound : GS := xRet (xTup (xConsA (xOp fSub (xC (.int 0)) (xOp fMul (xOp fIx (xVar 0) (xC (.int 1))) (xOp fIx (xVar 0) (xC (.int 2))))) (xConsA (xOp fMul (xOp fIx (xVar 0) (xC (.int 0))) (xOp fIx (xVar 0) (xC (.int 2)))) (xConsA (xC (.int 0)) (xConsA (xOp fMul (xOp fIx (xVar 0) (xC (.int 0))) (xOp fIx (xVar 0) (xC (.int 0)))) (xNilA))))))
def G__law_place_bound : GF := xDef 1 1 B__law_place_bound
def B__law_roof_parts : GS := xSeq (xAsg (xCall G__law_line (xConsA (xVar 0) (xConsA (xVar 1) (xNilA)))) (xTupG (xConsG (xName 6) (xConsG (xName 7) (xNilG)))))
  (xSeq (xPar2 8 9 (xConsA (xOp fIx (xCall G__law_apart (xConsA (xVar 0) (xNilA))) (xC (.int 0))) (xConsA (xOp fIx (xCall G__law_apart (xConsA (xVar 1) (xNilA))) (xC (.int 0))) (xNilA))))
  (xSeq (xPar2 10 11 (xConsA (xCall G__law_place_bound (xConsA (xVar 1) (xNilA))) (xConsA (xCall G__law_place_bound (xConsA (xVar 0) (xNilA))) (xNilA))))
  (xSeq (xIfS (xT (xOp fLe (xOp fIx (xVar 6) (xC (.int 0))) (xC (.int 0)))) (xSeq (xAsg (xCall G__law_plus (xConsA (xVar 7) (xConsA (xCall G__law_plus (xConsA (xCall G__law_over (xConsA (xVar 6) (xConsA (xVar 8) (xNilA)))) (xConsA (xCall G__law_over (xConsA (xVar 6) (xConsA (xVar 9) (xNilA)))) (xNilA)))) (xNilA)))) (xName 12))
  (xRet (xLst (xConsA (xTup (xConsA (xC .non) (xConsA (xVar 12) (xConsA (xVar 10) (xNilA))))) (xConsA (xTup (xConsA (xVar 12) (xConsA (xC .non) (xConsA (xVar 11) (xNilA))))) (xNilA)))))) (xNext))
  (xSeq (xAsg (xCall G__law_plus (xConsA (xVar 7) (xConsA (xCall G__law_over (xConsA (xCall G__law_times (xConsA (xTup (xConsA (xC (.int 2)) (xConsA (xC (.int 1)) (xNilA)))) (xConsA (xVar 6) (xNilA)))) (xConsA (xVar 9) (xNilA)))) (xNilA)))) (xName 2))
  (xSeq (xAsg (xCall G__law_plus (xConsA (xVar 7) (xConsA (xCall G__law_over (xConsA (xCall G__law_times (xConsA (xTup (xConsA (xC (.int 2)) (xConsA (xC (.int 1)) (xNilA)))) (xConsA (xVar 6) (xNilA)))) (xConsA (xVar 8) (xNilA)))) (xNilA)))) (xName 3))
  (xSeq (xAsg (xCall G__law_times (xConsA (xTup (xConsA (xC (.int 4)) (xConsA (xC (.int 1)) (xNilA)))) (xConsA (xVar 6) (xNilA)))) (xName 4))
  (xSeq (xAsg (xCall G__law_bound (xConsA (xCall G__law_over (xConsA (xCall G__law_times (xConsA (xVar 7) (xConsA (xVar 7) (xNilA)))) (xConsA (xVar 4) (xNilA)))) (xConsA (xCall G__law_over (xConsA (xCall G__law_times (xConsA (xTup (xConsA (xUn fNeg (xC (.int 2))) (xConsA (xC (.int 1)) (xNilA)))) (xConsA (xVar 7) (xNilA)))) (xConsA (xVar 4) (xNilA)))) (xConsA (xCall G__law_over (xConsA (xTup (xConsA (xC (.int 1)) (xConsA (xC (.int 1)) (xNilA)))) (xConsA (xVar 4) (xNilA)))) (xNilA))))) (xName 5))
  (xRet (xLst (xConsA (xTup (xConsA (xC .non) (xConsA (xVar 2) (xConsA (xVar 10) (xNilA))))) (xConsA (xTup (xConsA (xVar 2) (xConsA (xVar 3) (xConsA (xVar 5) (xNilA))))) (xConsA (xTup (xConsA (xVar 3) (xConsA (xC .non) (xConsA (xVar 11) (xNilA))))) (xNilA)))))))))))))
def G__law_roof_parts : GF := xDef 2 13 B__law_roof_parts
def B__law_parts : GS := xSeq (xAsg (xOp fIx (xVar 0) (xC (.int 0))) (xName 1))
  (xSeq (xIfS (xOr (xT (xOp fEq (xVar 1) (xC (.str "over")))) (xT (xOp fEq (xVar 1) (xC (.str "under"))))) (xRet (xTup (xConsA (xOp fEq (xVar 1) (xC (.str "under"))) (xConsA (xLst (xConsA (xTup (xConsA (xC .non) (xConsA (xC .non) (xConsA (xCall G__law_place_bound (xConsA (xOp fIx (xVar 0) (xC (.int 1))) (xNilA))) (xNilA))))) (xNilA))) (xNilA))))) (xNext))
  (xSeq (xIfS (xT (xOp fEq (xVar 1) (xC (.str "roof")))) (xRet (xTup (xConsA (xC (.bl true)) (xConsA (xCall G__law_roof_parts (xConsA (xOp fIx (xVar 0) (xC (.int 1))) (xConsA (xOp fIx (xVar 0) (xC (.int 2))) (xNilA)))) (xNilA))))) (xNext))
  (xSeq (xIfS (xT (xOp fEq (xVar 1) (xC (.str "low")))) (xSeq (xAsg (xCall G__law_bound (xConsA (xTup (xConsA (xC (.int 0)) (xConsA (xC (.int 1)) (xNilA)))) (xConsA (xTup (xConsA (xC (.int 0)) (xConsA (xC (.int 1)) (xNilA)))) (xConsA (xCall G__law_over (xConsA (xTup (xConsA (xC (.int 1)) (xConsA (xC (.int 1)) (xNilA)))) (xConsA (xCall G__law_times (xConsA (xTup (xConsA (xC (.int 4)) (xConsA (xC (.int 1)) (xNilA)))) (xConsA (xOp fIx (xVar 0) (xC (.int 1))) (xNilA)))) (xNilA)))) (xNilA))))) (xName 3))
  (xRet (xTup (xConsA (xC (.bl true)) (xConsA (xLst (xConsA (xTup (xConsA (xC .non) (xConsA (xTup (xConsA (xC (.int 0)) (xConsA (xC (.int 1)) (xNilA)))) (xConsA (xTup (xConsA (xC (.int 0)) (xConsA (xC (.int 0)) (xConsA (xC (.int 0)) (xConsA (xC (.int 1)) (xNilA)))))) (xNilA))))) (xConsA (xTup (xConsA (xTup (xConsA (xC (.int 0)) (xConsA (xC (.int 1)) (xNilA)))) (xConsA (xC .non) (xConsA (xVar 3) (xNilA))))) (xNilA)))) (xNilA)))))) (xNext))
  (xSeq (xIfS (xOr (xT (xOp fEq (xVar 1) (xC (.str "quick")))) (xT (xOp fEq (xVar 1) (xC (.str "slow"))))) (xRet (xTup (xConsA (xOp fEq (xVar 1) (xC (.str "slow"))) (xConsA (xLst (xConsA (xTup (xConsA (xC .non) (xConsA (xC .non) (xConsA (xCall G__law_bound (xConsA (xOp fIx (xVar 0) (xC (.int 1))) (xConsA (xTup (xConsA (xC (.int 0)) (xConsA (xC (.int 1)) (xNilA)))) (xConsA (xTup (xConsA (xC (.int 0)) (xConsA (xC (.int 1)) (xNilA)))) (xNilA))))) (xNilA))))) (xNilA))) (xNilA))))) (xNext))
  (xSeq (xAsg (xCall G__law_times (xConsA (xTup (xConsA (xC (.int 2)) (xConsA (xC (.int 1)) (xNilA)))) (xConsA (xOp fIx (xVar 0) (xC (.int 1))) (xNilA)))) (xName 2))
  (xSeq (xAsg (xCall G__law_bound (xConsA (xCall G__law_over (xConsA (xTup (xConsA (xOp fSub (xC (.int 0)) (xOp fIx (xOp fIx (xVar 0) (xC (.int 2))) (xC (.int 0)))) (xConsA (xOp fIx (xOp fIx (xVar 0) (xC (.int 2))) (xC (.int 1))) (xNilA)))) (xConsA (xVar 2) (xNilA)))) (xConsA (xCall G__law_over (xConsA (xTup (xConsA (xC (.int 1)) (xConsA (xC (.int 1)) (xNilA)))) (xConsA (xVar 2) (xNilA)))) (xConsA (xTup (xConsA (xC (.int 0)) (xConsA (xC (.int 1)) (xNilA)))) (xNilA))))) (xName 3))
  (xRet (xTup (xConsA (xOp fEq (xVar 1) (xC (.str "dives"))) (xConsA (xLst (xConsA (xTup (xConsA (xC .non) (xConsA (xC .non) (xConsA (xVar 3) (xNilA))))) (xNilA))) (xNilA)))))))))))
def G__law_parts : GF := xDef 1 4 B__law_parts
def B__law_head_part : GS := xSeq (xAsg (xCall G__law_over (xConsA (xTup (xConsA (xC (.int 1)) (xConsA (xC (.int 1)) (xNilA)))) (xConsA (xCall G__law_times (xConsA (xTup (xConsA (xC (.int 4)) (xConsA (xC (.int 1)) (xNilA)))) (xConsA (xVar 0) (xNilA)))) (xNilA)))) (xName 1))
  (xRet (xLst (xConsA (xTup (xConsA (xC .non) (xConsA (xC .non) (xConsA (xCall G__law_bound (xConsA (xVar 1) (xConsA (xTup (xConsA (xC (.int 0)) (xConsA (xC (.int 1)) (xNilA)))) (xConsA (xVar 1) (xNilA))))) (xNilA))))) (xNilA))))
def G__law_head_part : GF := xDef 1 2 B__law_head_part
def B__law_span : GS := xSeq (xIfS (xAnd (xT (xOp fEq (xVar 2) (xC (.int 0)))) (xT (xOp fEq (xVar 3) (xC (.int 0))))) (xRet (xIf (xT (xOp fGe (xVar 4) (xC (.int 0)))) (xTup (xConsA (xVar 0) (xConsA (xVar 1) (xNilA)))) (xC .non))) (xNext))
  (xSeq (xIfS (xT (xOp fEq (xVar 2) (xC (.int 0)))) (xSeq (xAsg (xIf (xT (xOp fGt (xVar 3) (xC (.int 0)))) (xTup (xConsA (xOp fSub (xC (.int 0)) (xVar 4)) (xConsA (xC (.int 0)) (xConsA (xC (.int 0)) (xConsA (xVar 3) (xNilA)))))) (xTup (xConsA (xVar 4) (xConsA (xC (.int 0)) (xConsA (xC (.int 0)) (xConsA (xOp fSub (xC (.int 0)) (xVar 3)) (xNilA))))))) (xName 5))
  (xAsg (xIf (xT (xOp fGt (xVar 3) (xC (.int 0)))) (xTup (xConsA (xVar 5) (xConsA (xC .non) (xNilA)))) (xTup (xConsA (xC .non) (xConsA (xVar 5) (xNilA))))) (xName 6))) (xSeq (xAsg (xOp fSub (xOp fMul (xVar 3) (xVar 3)) (xOp fMul (xOp fMul (xC (.int 4)) (xVar 2)) (xVar 4))) (xName 7))
  (xSeq (xIfS (xT (xOp fLt (xVar 7) (xC (.int 0)))) (xRet (xC .non)) (xNext))
  (xAsg (xTup (xConsA (xTup (xConsA (xVar 3) (xConsA (xUn fNeg (xC (.int 1))) (xConsA (xVar 7) (xConsA (xOp fSub (xC (.int 0)) (xOp fMul (xC (.int 2)) (xVar 2))) (xNilA)))))) (xConsA (xTup (xConsA (xVar 3) (xConsA (xC (.int 1)) (xConsA (xVar 7) (xConsA (xOp fSub (xC (.int 0)) (xOp fMul (xC (.int 2)) (xVar 2))) (xNilA)))))) (xNilA)))) (xName 6)))))
  (xSeq (xAsg (xIf (xOr (xT (xUn fIsN (xVar 0))) (xAnd (xT (xUn fNotN (xOp fIx (xVar 6) (xC (.int 0))))) (xT (xOp fGt (xCall G__law_surd_order (xConsA (xOp fIx (xVar 6) (xC (.int 0))) (xConsA (xVar 0) (xNilA)))) (xC (.int 0)))))) (xOp fIx (xVar 6) (xC (.int 0))) (xVar 0)) (xName 0))
  (xSeq (xAsg (xIf (xOr (xT (xUn fIsN (xVar 1))) (xAnd (xT (xUn fNotN (xOp fIx (xVar 6) (xC (.int 1))))) (xT (xOp fLt (xCall G__law_surd_order (xConsA (xOp fIx (xVar 6) (xC (.int 1))) (xConsA (xVar 1) (xNilA)))) (xC (.int 0)))))) (xOp fIx (xVar 6) (xC (.int 1))) (xVar 1)) (xName 1))
  (xSeq (xIfS (xAnd (xT (xUn fNotN (xVar 0))) (xAnd (xT (xUn fNotN (xVar 1))) (xT (xOp fGt (xCall G__law_surd_order (xConsA (xVar 0) (xConsA (xVar 1) (xNilA)))) (xC (.int 0)))))) (xRet (xC .non)) (xNext))
  (xRet (xTup (xConsA (xVar 0) (xConsA (xVar 1) (xNilA)))))))))
def G__law_span : GF := xDef 5 8 B__law_span
def B__law_pair_span : GS := xSeq (xPar2 3 4 (xConsA (xC .non) (xConsA (xOp fIx (xOp fIx (xVar 1) (xC (.int 0))) (xC (.int 2))) (xNilA))))
  (xSeq (xFor (yLst (xVar 0)) (xTupG (xConsG (xName 5) (xConsG (xName 6) (xConsG (xName 7) (xNilG))))) (xSeq (xAsg (xOp fSub (xOp fMul (xOp fIx (xVar 4) (xC (.int 2))) (xOp fIx (xVar 7) (xC (.int 3)))) (xOp fMul (xOp fIx (xVar 7) (xC (.int 2))) (xOp fIx (xVar 4) (xC (.int 3))))) (xName 8))
  (xSeq (xAsg (xOp fSub (xOp fMul (xOp fIx (xVar 4) (xC (.int 1))) (xOp fIx (xVar 7) (xC (.int 3)))) (xOp fMul (xOp fIx (xVar 7) (xC (.int 1))) (xOp fIx (xVar 4) (xC (.int 3))))) (xName 9))
  (xSeq (xAsg (xOp fSub (xOp fMul (xOp fIx (xVar 4) (xC (.int 0))) (xOp fIx (xVar 7) (xC (.int 3)))) (xOp fMul (xOp fIx (xVar 7) (xC (.int 0))) (xOp fIx (xVar 4) (xC (.int 3))))) (xName 10))
  (xSeq (xAsg (xIf (xT (xUn fIsN (xVar 5))) (xC .non) (xCall G__law_plain (xConsA (xVar 5) (xNilA)))) (xName 5))
  (xSeq (xAsg (xCall G__law_span (xConsA (xVar 5) (xConsA (xIf (xT (xUn fIsN (xVar 6))) (xC .non) (xCall G__law_plain (xConsA (xVar 6) (xNilA)))) (xConsA (xVar 8) (xConsA (xVar 9) (xConsA (xVar 10) (xNilA))))))) (xName 11))
  (xIfS (xT (xUn fNotN (xVar 11))) (xSeq (xIfS (xAnd (xT (xVar 2)) (xAnd (xT (xOp fEq (xVar 8) (xC (.int 0)))) (xAnd (xT (xOp fEq (xVar 9) (xC (.int 0)))) (xT (xOp fEq (xVar 10) (xC (.int 0))))))) (xRet (xC .non)) (xNext))
  (xAsg (xIf (xT (xUn fIsN (xVar 3))) (xVar 11) (xTup (xConsA (xOp fIx (xVar 3) (xC (.int 0))) (xConsA (xOp fIx (xVar 11) (xC (.int 1))) (xNilA))))) (xName 3))) (xNext))))))))
  (xSeq (xIfS (xOr (xNot (xT (xVar 2))) (xOr (xT (xUn fIsN (xVar 3))) (xOr (xT (xUn fIsN (xOp fIx (xVar 3) (xC (.int 0))))) (xT (xUn fIsN (xOp fIx (xVar 3) (xC (.int 1)))))))) (xRet (xVar 3)) (xNext))
  (xRet (xIf (xT (xOp fLt (xCall G__law_surd_order (xConsA (xOp fIx (xVar 3) (xC (.int 0))) (xConsA (xOp fIx (xVar 3) (xC (.int 1))) (xNilA)))) (xC (.int 0)))) (xVar 3) (xC .non)))))
def G__law_pair_span : GF := xDef 3 12 B__law_pair_span
def B__law_spans : GS := xAlloc3 2 3 4 (xConsA (xTup (xConsA (xCall G__law_head_part (xConsA (xVar 0) (xNilA))) (xConsA (xC (.bl false)) (xNilA)))) (xNilA))
  (xSeq (xFor (yLst (xVar 1)) (xTupG (xConsG (xName 5) (xConsG (xName 6) (xNilG)))) (xIfS (xAnd (xOr (xT (xOp fEq (xOp fIx (xVar 5) (xC (.int 0))) (xC (.str "dives")))) (xT (xOp fEq (xOp fIx (xVar 5) (xC (.int 0))) (xC (.str "climbs"))))) (xT (xOp fEq (xOp fIx (xOp fIx (xVar 5) (xC (.int 1))) (xC (.int 0))) (xC (.int 0))))) (xSeq (xAsg (xCall G__law_plain (xConsA (xOp fIx (xVar 5) (xC (.int 2))) (xNilA))) (xName 8))
  (xApp 4 (xIf (xT (xOp fEq (xOp fIx (xVar 5) (xC (.int 0))) (xC (.str "dives")))) (xTup (xConsA (xC .non) (xConsA (xVar 8) (xConsA (xVar 6) (xNilA))))) (xTup (xConsA (xVar 8) (xConsA (xC .non) (xConsA (xVar 6) (xNilA)))))))) (xSeq (xAsg (xCall G__law_parts (xConsA (xVar 5) (xNilA))) (xTupG (xConsG (xName 12) (xConsG (xName 7) (xNilG)))))
  (xIfS (xT (xVar 12)) (xApp 2 (xTup (xConsA (xVar 7) (xConsA (xVar 6) (xNilA))))) (xApp 3 (xTup (xConsA (xVar 7) (xConsA (xVar 6) (xNilA)))))))))
  (xSeq (xForC 2 (xTupG (xConsG (xName 7) (xConsG (xName 6) (xNilG)))) (xForC 3 (xTupG (xConsG (xName 9) (xConsG (xName 10) (xNilG)))) (xSeq (xAsg (xCall G__law_pair_span (xConsA (xVar 7) (xConsA (xVar 9) (xConsA (xOrV (xVar 6) (xVar 10)) (xNilA))))) (xName 11))
  (xApp 4 (xIf (xT (xUn fIsN (xVar 11))) (xC .non) (xTup (xConsA (xOp fIx (xVar 11) (xC (.int 0))) (xConsA (xOp fIx (xVar 11) (xC (.int 1))) (xConsA (xOrV (xVar 6) (xVar 10)) (xNilA))))))))))
  (xRet (xVar 4))))
def G__law_spans : GF := xDef 2 13 B__law_spans
def B__law_slopes : GS := xSeq (xAsg (xTup (xConsA (xC .non) (xConsA (xC .non) (xConsA (xC (.bl false)) (xConsA (xC (.bl false)) (xNilA)))))) (xTupG (xConsG (xName 4) (xConsG (xName 5) (xConsG (xName 6) (xConsG (xName 7) (xNilG)))))))
  (xSeq (xFor (yLst (xCall G__law_spans (xConsA (xVar 0) (xConsA (xVar 1) (xNilA))))) (xName 2) (xSeq (xIfS (xT (xUn fIsN (xVar 2))) (xRet (xC .non)) (xNext))
  (xSeq (xIfS (xT (xUn fNotN (xOp fIx (xVar 2) (xC (.int 0))))) (xSeq (xAsg (xIf (xT (xUn fIsN (xVar 4))) (xC (.int 1)) (xCall G__law_surd_order (xConsA (xOp fIx (xVar 2) (xC (.int 0))) (xConsA (xVar 4) (xNilA))))) (xName 3))
  (xSeq (xAsg (xIf (xT (xOp fGt (xVar 3) (xC (.int 0)))) (xOp fIx (xVar 2) (xC (.int 2))) (xOrV (xVar 6) (xAndV (xOp fEq (xVar 3) (xC (.int 0))) (xOp fIx (xVar 2) (xC (.int 2)))))) (xName 6))
  (xAsg (xIf (xT (xOp fGt (xVar 3) (xC (.int 0)))) (xOp fIx (xVar 2) (xC (.int 0))) (xVar 4)) (xName 4)))) (xNext))
  (xIfS (xT (xUn fNotN (xOp fIx (xVar 2) (xC (.int 1))))) (xSeq (xAsg (xIf (xT (xUn fIsN (xVar 5))) (xC (.int 1)) (xCall G__law_surd_order (xConsA (xVar 5) (xConsA (xOp fIx (xVar 2) (xC (.int 1))) (xNilA))))) (xName 3))
  (xSeq (xAsg (xIf (xT (xOp fGt (xVar 3) (xC (.int 0)))) (xOp fIx (xVar 2) (xC (.int 2))) (xOrV (xVar 7) (xAndV (xOp fEq (xVar 3) (xC (.int 0))) (xOp fIx (xVar 2) (xC (.int 2)))))) (xName 7))
  (xAsg (xIf (xT (xOp fGt (xVar 3) (xC (.int 0)))) (xOp fIx (xVar 2) (xC (.int 1))) (xVar 5)) (xName 5)))) (xNext)))))
  (xSeq (xIfS (xOr (xT (xUn fIsN (xVar 4))) (xT (xUn fIsN (xVar 5)))) (xRet (xTup (xConsA (xVar 4) (xConsA (xVar 5) (xNilA))))) (xNext))
  (xSeq (xAsg (xCall G__law_surd_order (xConsA (xVar 4) (xConsA (xVar 5) (xNilA)))) (xName 3))
  (xRet (xIf (xOr (xT (xOp fGt (xVar 3) (xC (.int 0)))) (xAnd (xT (xOp fEq (xVar 3) (xC (.int 0)))) (xOr (xT (xVar 6)) (xT (xVar 7))))) (xC .non) (xTup (xConsA (xVar 4) (xConsA (xVar 5) (xNilA)))))))))
def G__law_slopes : GF := xDef 2 8 B__law_slopes
def B__law_size : GS := xSeq (xAsg (xCall G__law_draw (xConsA (xVar 0) (xConsA (xC (.int 4)) (xNilA)))) (xName 1))
  (xSeq (xIfS (xT (xOp fLt (xVar 1) (xC (.int 3)))) (xRet (xCall G__law_pick (xConsA (xVar 0) (xConsA (xTup (xConsA (xTup (xConsA (xC (.int 1)) (xConsA (xC (.int 1)) (xNilA)))) (xConsA (xTup (xConsA (xC (.int 1)) (xConsA (xC (.int 2)) (xNilA)))) (xConsA (xTup (xConsA (xC (.int 2)) (xConsA (xC (.int 1)) (xNilA)))) (xConsA (xTup (xConsA (xC (.int 3)) (xConsA (xC (.int 2)) (xNilA)))) (xConsA (xTup (xConsA (xC (.int 1)) (xConsA (xC (.int 4)) (xNilA)))) (xConsA (xTup (xConsA (xC (.int 3)) (xConsA (xC (.int 4)) (xNilA)))) (xConsA (xTup (xConsA (xC (.int 3)) (xConsA (xC (.int 1)) (xNilA)))) (xConsA (xTup (xConsA (xC (.int 4)) (xConsA (xC (.int 1)) (xNilA)))) (xNilA)))))))))) (xNilA))))) (xNext))
  (xRet (xCall G__law_ratio (xConsA (xOp fAdd (xC (.int 1)) (xCall G__law_draw (xConsA (xVar 0) (xConsA (xC (.int 9)) (xNilA))))) (xConsA (xOp fAdd (xC (.int 1)) (xCall G__law_draw (xConsA (xVar 0) (xConsA (xC (.int 5)) (xNilA))))) (xNilA))))))
def G__law_size : GF := xDef 1 2 B__law_size
def B__law_part : GS := xSeq (xAsg (xCall G__law_pick (xConsA (xVar 0) (xConsA (xTup (xConsA (xTup (xConsA (xC (.int 0)) (xConsA (xC (.int 1)) (xNilA)))) (xConsA (xTup (xConsA (xC (.int 1)) (xConsA (xC (.int 1)) (xNilA)))) (xConsA (xTup (xConsA (xC (.int 1)) (xConsA (xC (.int 2)) (xNilA)))) (xConsA (xTup (xConsA (xC (.int 2)) (xConsA (xC (.int 1)) (xNilA)))) (xConsA (xC .non) (xConsA (xC .non) (xConsA (xC .non) (xNilA))))))))) (xNilA)))) (xName 1))
  (xSeq (xAsg (xIf (xT (xUn fIsN (xVar 1))) (xCall G__law_size (xConsA (xVar 0) (xNilA))) (xVar 1)) (xName 1))
  (xRet (xIf (xT (xOp fLt (xCall G__law_draw (xConsA (xVar 0) (xConsA (xC (.int 5)) (xNilA)))) (xC (.int 3)))) (xVar 1) (xTup (xConsA (xOp fSub (xC (.int 0)) (xOp fIx (xVar 1) (xC (.int 0)))) (xConsA (xOp fIx (xVar 1) (xC (.int 1))) (xNilA)))))))
def G__law_part : GF := xDef 1 2 B__law_part
def B__law_jet : GS := xSeq (xAsg (xCall G__law_draw (xConsA (xVar 0) (xConsA (xC (.int 4)) (xNilA)))) (xName 1))
  (xSeq (xIfS (xT (xOp fLt (xVar 1) (xC (.int 2)))) (xRet (xCall G__law_pick (xConsA (xVar 0) (xConsA (xTup (xConsA (xTup (xConsA (xTup (xConsA (xC (.int 1)) (xConsA (xC (.int 1)) (xNilA)))) (xConsA (xTup (xConsA (xC (.int 1)) (xConsA (xC (.int 4)) (xNilA)))) (xNilA)))) (xConsA (xTup (xConsA (xTup (xConsA (xC (.int 1)) (xConsA (xC (.int 1)) (xNilA)))) (xConsA (xTup (xConsA (xC (.int 1)) (xConsA (xC (.int 2)) (xNilA)))) (xNilA)))) (xConsA (xTup (xConsA (xTup (xConsA (xC (.int 2)) (xConsA (xC (.int 1)) (xNilA)))) (xConsA (xTup (xConsA (xC (.int 1)) (xConsA (xC (.int 1)) (xNilA)))) (xNilA)))) (xConsA (xTup (xConsA (xTup (xConsA (xC (.int 0)) (xConsA (xC (.int 1)) (xNilA)))) (xConsA (xTup (xConsA (xC (.int 1)) (xConsA (xC (.int 4)) (xNilA)))) (xNilA)))) (xConsA (xTup (xConsA (xTup (xConsA (xC (.int 2)) (xConsA (xC (.int 1)) (xNilA)))) (xConsA (xTup (xConsA (xC (.int 5)) (xConsA (xC (.int 4)) (xNilA)))) (xNilA)))) (xNilA))))))) (xNilA))))) (xNext))
  (xRet (xTup (xConsA (xCall G__law_part (xConsA (xVar 0) (xNilA))) (xConsA (xCall G__law_size (xConsA (xVar 0) (xNilA))) (xNilA))))))
def G__law_jet : GF := xDef 1 2 B__law_jet
def B__law_slack : GS := xRet (xCall G__law_pick (xConsA (xVar 0) (xConsA (xTup (xConsA (xTup (xConsA (xC (.int 0)) (xConsA (xC (.int 1)) (xNilA)))) (xConsA (xTup (xConsA (xC (.int 0)) (xConsA (xC (.int 1)) (xNilA)))) (xConsA (xTup (xConsA (xC (.int 1)) (xConsA (xC (.int 4)) (xNilA)))) (xConsA (xTup (xConsA (xC (.int 1)) (xConsA (xC (.int 2)) (xNilA)))) (xConsA (xTup (xConsA (xC (.int 1)) (xConsA (xC (.int 1)) (xNilA)))) (xConsA (xTup (xConsA (xC (.int 2)) (xConsA (xC (.int 1)) (xNilA)))) (xConsA (xTup (xConsA (xC (.int 1)) (xConsA (xC (.int 3)) (xNilA)))) (xNilA))))))))) (xNilA))))
def G__law_slack : GF := xDef 1 1 B__law_slack
def B__law_roof_near : GS := xSeq (xPar3 3 4 5 (xConsA (xCall G__law_size (xConsA (xVar 0) (xNilA))) (xConsA (xCall G__law_size (xConsA (xVar 0) (xNilA))) (xConsA (xCall G__law_slack (xConsA (xVar 0) (xNilA))) (xNilA)))))
  (xSeq (xPar2 6 7 (xConsA (xCall G__law_plus (xConsA (xVar 3) (xConsA (xVar 4) (xNilA)))) (xConsA (xCall G__law_over (xConsA (xCall G__law_times (xConsA (xOp fIx (xVar 1) (xC (.int 1))) (xConsA (xCall G__law_times (xConsA (xVar 4) (xConsA (xVar 4) (xNilA)))) (xNilA)))) (xConsA (xTup (xConsA (xC (.int 4)) (xConsA (xC (.int 1)) (xNilA)))) (xNilA)))) (xNilA))))
  (xSeq (xAsg (xCall G__law_plus (xConsA (xVar 7) (xConsA (xVar 5) (xNilA)))) (xName 2))
  (xSeq (xPar2 8 9 (xConsA (xCall G__law_plus (xConsA (xCall G__law_high (xConsA (xVar 1) (xConsA (xVar 3) (xNilA)))) (xConsA (xVar 2) (xNilA)))) (xConsA (xCall G__law_plus (xConsA (xCall G__law_high (xConsA (xVar 1) (xConsA (xVar 6) (xNilA)))) (xConsA (xVar 2) (xNilA)))) (xNilA))))
  (xRet (xTup (xConsA (xC (.str "roof")) (xConsA (xCall G__law_place (xConsA (xVar 3) (xConsA (xVar 8) (xNilA)))) (xConsA (xCall G__law_place (xConsA (xVar 6) (xConsA (xVar 9) (xNilA)))) (xNilA)))))))))
def G__law_roof_near : GF := xDef 2 10 B__law_roof_near
def B__law_near_ask : GS := xSeq (xPar3 3 4 5 (xConsA (xCall G__law_draw (xConsA (xVar 0) (xConsA (xC (.int 11)) (xNilA)))) (xConsA (xCall G__law_size (xConsA (xVar 0) (xNilA))) (xConsA (xCall G__law_slack (xConsA (xVar 0) (xNilA))) (xNilA)))))
  (xSeq (xPar2 6 7 (xConsA (xCall G__law_high (xConsA (xVar 1) (xConsA (xVar 4) (xNilA)))) (xConsA (xCall G__law_steep (xConsA (xVar 1) (xConsA (xVar 4) (xNilA)))) (xNilA))))
  (xSeq (xIfS (xT (xOp fLt (xVar 3) (xC (.int 3)))) (xRet (xTup (xConsA (xC (.str "over")) (xConsA (xCall G__law_place (xConsA (xVar 4) (xConsA (xCall G__law_less (xConsA (xVar 6) (xConsA (xVar 5) (xNilA)))) (xNilA)))) (xNilA))))) (xNext))
  (xSeq (xIfS (xT (xOp fLt (xVar 3) (xC (.int 5)))) (xRet (xTup (xConsA (xC (.str "under")) (xConsA (xCall G__law_place (xConsA (xVar 4) (xConsA (xCall G__law_plus (xConsA (xVar 6) (xConsA (xVar 5) (xNilA)))) (xNilA)))) (xNilA))))) (xNext))
  (xSeq (xIfS (xT (xOp fEq (xVar 3) (xC (.int 5)))) (xRet (xCall G__law_roof_near (xConsA (xVar 0) (xConsA (xVar 1) (xNilA))))) (xNext))
  (xSeq (xIfS (xT (xOp fEq (xVar 3) (xC (.int 6)))) (xSeq (xAsg (xCall G__law_over (xConsA (xCall G__law_times (xConsA (xOp fIx (xVar 1) (xC (.int 0))) (xConsA (xOp fIx (xVar 1) (xC (.int 0))) (xNilA)))) (xConsA (xCall G__law_times (xConsA (xTup (xConsA (xC (.int 4)) (xConsA (xC (.int 1)) (xNilA)))) (xConsA (xOp fIx (xVar 1) (xC (.int 1))) (xNilA)))) (xNilA)))) (xName 8))
  (xRet (xTup (xConsA (xC (.str "low")) (xConsA (xIf (xT (xOp fGt (xOp fIx (xOp fIx (xVar 1) (xC (.int 0))) (xC (.int 0))) (xC (.int 0)))) (xCall G__law_plus (xConsA (xVar 8) (xConsA (xVar 5) (xNilA)))) (xVar 4)) (xNilA)))))) (xNext))
  (xSeq (xIfS (xT (xOp fLt (xVar 3) (xC (.int 9)))) (xSeq (xAsg (xIf (xT (xOp fEq (xCall G__law_draw (xConsA (xVar 0) (xConsA (xC (.int 3)) (xNilA)))) (xC (.int 0)))) (xTup (xConsA (xTup (xConsA (xC (.int 0)) (xConsA (xC (.int 1)) (xNilA)))) (xConsA (xOp fIx (xVar 1) (xC (.int 0))) (xNilA)))) (xTup (xConsA (xVar 4) (xConsA (xVar 7) (xNilA))))) (xTupG (xConsG (xName 4) (xConsG (xName 7) (xNilG)))))
  (xSeq (xAsg (xTup (xConsA (xC (.str "dives")) (xConsA (xVar 4) (xConsA (xCall G__law_plus (xConsA (xVar 7) (xConsA (xVar 5) (xNilA)))) (xNilA))))) (xName 9))
  (xRet (xIf (xT (xOp fEq (xVar 3) (xC (.int 7)))) (xVar 9) (xTup (xConsA (xC (.str "climbs")) (xConsA (xVar 4) (xConsA (xCall G__law_less (xConsA (xVar 7) (xConsA (xVar 5) (xNilA)))) (xNilA))))))))) (xNext))
  (xSeq (xIfS (xT (xOp fEq (xVar 3) (xC (.int 9)))) (xRet (xTup (xConsA (xC (.str "quick")) (xConsA (xCall G__law_plus (xConsA (xOp fIx (xVar 1) (xC (.int 1))) (xConsA (xVar 5) (xNilA)))) (xNilA))))) (xNext))
  (xSeq (xAsg (xCall G__law_less (xConsA (xOp fIx (xVar 1) (xC (.int 1))) (xConsA (xVar 5) (xNilA)))) (xName 2))
  (xRet (xTup (xConsA (xC (.str "slow")) (xConsA (xIf (xT (xOp fGt (xOp fIx (xVar 2) (xC (.int 0))) (xC (.int 0)))) (xVar 2) (xOp fIx (xVar 1) (xC (.int 1)))) (xNilA)))))))))))))
def G__law_near_ask : GF := xDef 2 10 B__law_near_ask
def B__law_wet : GS := xSeq (xAsg (xLc (yTup (xVar 1)) (xName 4) (xYes) (xTup (xConsA (xVar 4) (xConsA (xC (.bl false)) (xNilA)))) [4]) (xName 3))
  (xRet (xCall G__law_slopes (xConsA (xVar 0) (xConsA (xOp fAdd (xVar 3) (xLst (xConsA (xTup (xConsA (xTup (xConsA (xC (.str "over")) (xConsA (xVar 2) (xNilA)))) (xConsA (xC (.bl false)) (xNilA)))) (xConsA (xTup (xConsA (xTup (xConsA (xC (.str "under")) (xConsA (xVar 2) (xNilA)))) (xConsA (xC (.bl false)) (xNilA)))) (xNilA))))) (xNilA)))))
def G__law_wet : GF := xDef 3 5 B__law_wet
def B__law_guard_asks : GS := xRet (xLc (yTup (xVar 0)) (xTupG (xConsG (xName 1) (xConsG (xName 2) (xNilG)))) (xYes) (xIf (xT (xOp fEq (xVar 1) (xC (.str "post")))) (xTup (xConsA (xC (.str "over")) (xConsA (xVar 2) (xNilA)))) (xTup (xConsA (xC (.str "under")) (xConsA (xVar 2) (xNilA))))) [1, 2])
def G__law_guard_asks : GF := xDef 1 3 B__law_guard_asks
def B__law_guarded : GS := xRet (xUn fIsN (xCall G__law_wet (xConsA (xVar 0) (xConsA (xOp fAdd (xBlt bTuple (xConsA (xVar 1) (xNilA))) (xBlt bTuple (xConsA (xCall G__law_guard_asks (xConsA (xVar 3) (xNilA))) (xNilA)))) (xConsA (xVar 2) (xNilA))))))
def G__law_guarded : GF := xDef 4 4 B__law_guarded
def B__law_guards : GS := xAlloc2 4 5 (xOp fIx (xCall G__law_apart (xConsA (xVar 2) (xNilA))) (xC (.int 0)))
  (xSeq (xFor (yRng1 (xOp fAdd (xC (.int 1)) (xCall G__law_draw (xConsA (xVar 0) (xConsA (xC (.int 4)) (xNilA)))))) (xName 3) (xSeq (xAsg (xCall G__law_times (xConsA (xVar 5) (xConsA (xCall G__law_pick (xConsA (xVar 0) (xConsA (xTup (xConsA (xTup (xConsA (xC (.int 1)) (xConsA (xC (.int 2)) (xNilA)))) (xConsA (xTup (xConsA (xC (.int 1)) (xConsA (xC (.int 3)) (xNilA)))) (xConsA (xTup (xConsA (xC (.int 2)) (xConsA (xC (.int 3)) (xNilA)))) (xConsA (xTup (xConsA (xC (.int 1)) (xConsA (xC (.int 4)) (xNilA)))) (xConsA (xTup (xConsA (xC (.int 3)) (xConsA (xC (.int 4)) (xNilA)))) (xConsA (xTup (xConsA (xC (.int 2)) (xConsA (xC (.int 5)) (xNilA)))) (xNilA)))))))) (xNilA)))) (xNilA)))) (xName 6))
  (xSeq (xPar3 7 8 9 (xConsA (xCall G__law_high (xConsA (xVar 1) (xConsA (xVar 6) (xNilA)))) (xConsA (xCall G__law_slack (xConsA (xVar 0) (xNilA))) (xConsA (xCall G__law_draw (xConsA (xVar 0) (xConsA (xC (.int 7)) (xNilA)))) (xNilA)))))
  (xSeq (xAsg (xIf (xT (xOp fEq (xVar 9) (xC (.int 0)))) (xCall G__law_part (xConsA (xVar 0) (xNilA))) (xIf (xT (xOp fLt (xVar 9) (xC (.int 4)))) (xCall G__law_plus (xConsA (xVar 7) (xConsA (xVar 8) (xNilA)))) (xCall G__law_less (xConsA (xVar 7) (xConsA (xVar 8) (xNilA)))))) (xName 7))
  (xApp 4 (xTup (xConsA (xCall G__law_pick (xConsA (xVar 0) (xConsA (xTup (xConsA (xC (.str "post")) (xConsA (xC (.str "curtain")) (xNilA)))) (xNilA)))) (xConsA (xCall G__law_place (xConsA (xVar 6) (xConsA (xVar 7) (xNilA)))) (xNilA)))))))))
  (xRet (xTupC 4)))
def G__law_guards : GF := xDef 3 10 B__law_guards
def B__law_open_world : GS := xSeq (xAsg (xCall G__law_jet (xConsA (xVar 0) (xNilA))) (xName 1))
  (xSeq (xAsg (xCall G__law_times (xConsA (xCall G__law_own_head (xConsA (xVar 1) (xNilA))) (xConsA (xCall G__law_pick (xConsA (xVar 0) (xConsA (xTup (xConsA (xTup (xConsA (xC (.int 2)) (xConsA (xC (.int 1)) (xNilA)))) (xConsA (xTup (xConsA (xC (.int 3)) (xConsA (xC (.int 2)) (xNilA)))) (xConsA (xTup (xConsA (xC (.int 6)) (xConsA (xC (.int 5)) (xNilA)))) (xConsA (xTup (xConsA (xC (.int 4)) (xConsA (xC (.int 1)) (xNilA)))) (xConsA (xTup (xConsA (xC (.int 1)) (xConsA (xC (.int 1)) (xNilA)))) (xNilA))))))) (xNilA)))) (xNilA)))) (xName 2))
  (xSeq (xAsg (xLc (yRng1 (xCall G__law_pick (xConsA (xVar 0) (xConsA (xTup (xConsA (xC (.int 0)) (xConsA (xC (.int 0)) (xConsA (xC (.int 0)) (xConsA (xC (.int 1)) (xConsA (xC (.int 1)) (xConsA (xC (.int 2)) (xConsA (xC (.int 3)) (xNilA))))))))) (xNilA))))) (xName 4) (xYes) (xCall G__law_near_ask (xConsA (xVar 0) (xConsA (xVar 1) (xNilA)))) [4]) (xName 3))
  (xRet (xTup (xConsA (xVar 2) (xConsA (xBlt bTuple (xConsA (xVar 3) (xNilA))) (xConsA (xVar 1) (xNilA))))))))
def G__law_open_world : GF := xDef 1 5 B__law_open_world
def B__law_target : GS := xSeq (xPar3 3 4 5 (xConsA (xCall G__law_size (xConsA (xVar 0) (xNilA))) (xConsA (xCall G__law_slack (xConsA (xVar 0) (xNilA))) (xConsA (xCall G__law_draw (xConsA (xVar 0) (xConsA (xC (.int 6)) (xNilA)))) (xNilA)))))
  (xSeq (xAsg (xCall G__law_plus (xConsA (xCall G__law_high (xConsA (xVar 1) (xConsA (xVar 3) (xNilA)))) (xConsA (xIf (xT (xOp fEq (xCall G__law_draw (xConsA (xVar 0) (xConsA (xC (.int 5)) (xNilA)))) (xC (.int 0)))) (xTup (xConsA (xC (.int 40)) (xConsA (xC (.int 1)) (xNilA)))) (xTup (xConsA (xC (.int 0)) (xConsA (xC (.int 1)) (xNilA))))) (xNilA)))) (xName 2))
  (xRet (xCall G__law_place (xConsA (xVar 3) (xConsA (xIf (xT (xOp fLt (xVar 5) (xC (.int 4)))) (xVar 2) (xIf (xT (xOp fEq (xVar 5) (xC (.int 4)))) (xCall G__law_plus (xConsA (xVar 2) (xConsA (xVar 4) (xNilA)))) (xCall G__law_less (xConsA (xVar 2) (xConsA (xVar 4) (xNilA)))))) (xNilA))))))
def G__law_target : GF := xDef 2 6 B__law_target
def B__law_fewest : GS := xSeq (xIfS (xT (xUn fIsN (xCall G__law_wet (xConsA (xVar 0) (xConsA (xVar 1) (xConsA (xVar 2) (xNilA))))))) (xRet (xTup (xNilA))) (xNext))
  (xSeq (xFor (yRng1 (xBlt bLen (xConsA (xVar 3) (xNilA)))) (xName 4) (xIfS (xT (xCall G__law_guarded (xConsA (xVar 0) (xConsA (xVar 1) (xConsA (xVar 2) (xConsA (xSl (xVar 3) (xOSome (xVar 4)) (xOSome (xOp fAdd (xVar 4) (xC (.int 1))))) (xNilA))))))) (xRet (xTup (xConsA (xVar 4) (xNilA)))) (xNext)))
  (xSeq (xFor (yRng1 (xBlt bLen (xConsA (xVar 3) (xNilA)))) (xName 4) (xSeq (xAsg (xLc (yRng2 (xOp fAdd (xVar 4) (xC (.int 1))) (xBlt bLen (xConsA (xVar 3) (xNilA)))) (xName 6) (xT (xCall G__law_guarded (xConsA (xVar 0) (xConsA (xVar 1) (xConsA (xVar 2) (xConsA (xTup (xConsA (xOp fIx (xVar 3) (xVar 4)) (xConsA (xOp fIx (xVar 3) (xVar 6)) (xNilA)))) (xNilA))))))) (xVar 6) [6]) (xName 5))
  (xIfS (xT (xOp fNe (xVar 5) (xLst (xNilA)))) (xRet (xTup (xConsA (xVar 4) (xConsA (xOp fIx (xVar 5) (xC (.int 0))) (xNilA))))) (xNext))))
  (xRet (xC .non))))
def G__law_fewest : GF := xDef 4 7 B__law_fewest
def B__law_right : GS := xSeq (xAsg (xCall G__law_open_world (xConsA (xVar 0) (xNilA))) (xTupG (xConsG (xName 5) (xConsG (xName 6) (xConsG (xName 7) (xNilG))))))
  (xSeq (xAsg (xCall G__law_target (xConsA (xVar 0) (xConsA (xVar 7) (xNilA)))) (xName 1))
  (xSeq (xAsg (xOp fAdd (xCall G__law_guards (xConsA (xVar 0) (xConsA (xVar 7) (xConsA (xVar 1) (xNilA))))) (xSl (xCall G__law_guards (xConsA (xVar 0) (xConsA (xVar 7) (xConsA (xVar 1) (xNilA))))) (xONone) (xOSome (xC (.int 1))))) (xName 2))
  (xSeq (xAsg (xCall G__law_fewest (xConsA (xVar 5) (xConsA (xVar 6) (xConsA (xVar 1) (xConsA (xVar 2) (xNilA)))))) (xName 3))
  (xSeq (xAsg (xCall G_fewest_guards (xConsA (xVar 5) (xConsA (xVar 6) (xConsA (xVar 1) (xConsA (xVar 2) (xNilA)))))) (xName 4))
  (xSeq (xIfS (xT (xOp fNe (xBlt bRepr (xConsA (xVar 4) (xNilA))) (xBlt bRepr (xConsA (xVar 3) (xNilA))))) (xRet (xC (.bl false))) (xNext))
  (xSeq (xIfS (xT (xOp fEq (xUn fIsN (xVar 3)) (xCall G__law_guarded (xConsA (xVar 5) (xConsA (xVar 6) (xConsA (xVar 1) (xConsA (xVar 2) (xNilA)))))))) (xRet (xC (.bl false))) (xNext))
  (xSeq (xIfS (xOr (xT (xUn fIsN (xVar 3))) (xT (xOp fEq (xVar 3) (xTup (xNilA))))) (xRet (xOp fEq (xBlt bRepr (xConsA (xCall G_is_guarded (xConsA (xVar 5) (xConsA (xVar 6) (xConsA (xVar 1) (xConsA (xVar 2) (xNilA)))))) (xNilA))) (xBlt bRepr (xConsA (xOp fEq (xVar 3) (xTup (xNilA))) (xNilA))))) (xNext))
  (xRet (xOp fIsB (xCall G_is_guarded (xConsA (xVar 5) (xConsA (xVar 6) (xConsA (xVar 1) (xConsA (xBlt bTuple (xConsA (xLc (yTup (xVar 4)) (xName 8) (xYes) (xOp fIx (xVar 2) (xVar 8)) [8]) (xNilA))) (xNilA)))))) (xC (.bl true)))))))))))
def G__law_right : GF := xDef 1 9 B__law_right
-- by hand: law
end
end Sp
set_option maxHeartbeats 4000000
/-! LAY 1: how a pure value stands in the heap; expressions. -/
namespace Sp
open PySem PySem.Spec PyProof.Rows L2

/-- the lists that are being changed, by number; what is not to be read as if it stood -/
structure En where
  ws : List Addr
  M : Addr → Prop
/-- a tuple of the written part -/
def Wr (K : PySem.W.Frag) (p : Addr) (vs : List V) : Prop := SqT K (fun _ => none) p vs
theorem Wr.sq {K : PySem.W.Frag} {p : Addr} {vs : List V} (h : Wr K p vs) (H : Hp) : SqT K H p vs := by
  rcases h with h | h
  · rcases h with h | ⟨_, h⟩ <;> cases h
  · exact .inr h
/-- the text of repr -/
def txtOf : A → Str
  | .non => "None"
  | .bl b => if b then "True" else "False"
  | .tup [] => "()"
  | .tup [.int i] => tupleText [(toString i : String)]
  | .tup [.int i, .int j] => tupleText [(toString i : String), (toString j : String)]
  | _ => ""
mutual
def Rep (K : PySem.W.Frag) (e : En) (H : Hp) : A → V → Prop
  | .non, v => v = .non
  | .bl b, v => v = .bl b
  | .int i, v => v = .int i
  | .str s, v => v = .str (Str.ofString s)
  | .txt a, v => v = .str (txtOf a)
  | .tup xs, v => ∃ p vs, v = .ref p ∧ ((¬ e.M p ∧ Rd H p (.tup vs)) ∨ Wr K p vs) ∧ Reps K e H xs vs
  | .lst xs, v => ∃ p vs, v = .ref p ∧ (¬ e.M p ∧ H p = some (.lst vs)) ∧ Reps K e H xs vs
  | .cell n, v => ∃ p, e.ws[n]? = some p ∧ v = .ref p
  | .ins lo up le, v => ∃ a dx v1 v2 v3, v = .ref a ∧ (¬ e.M a ∧ H a = some (.ins (He.ga K "Bounds") dx [("lowers", v1), ("uppers", v2), ("let", v3)])) ∧ Rep K e H lo v1 ∧ Rep K e H up v2 ∧ Rep K e H le v3
def Reps (K : PySem.W.Frag) (e : En) (H : Hp) : List A → List V → Prop
  | [], vs => vs = []
  | x :: xs, vs => ∃ u us, vs = u :: us ∧ Rep K e H x u ∧ Reps K e H xs us
end
/-- what stood stands, but the lists that are being changed -/
def Xt (e : En) (H H' : Hp) : Prop := ∀ a o, a ∉ e.ws → H a = some o → H' a = some o
structure Ok (K : PySem.W.Frag) (e : En) (H : Hp) (w : W) : Prop where
  sub : ∀ p ∈ e.ws, e.M p
  live : ∀ p, e.M p → H p ≠ none
  len : e.ws.length = w.length
  nod : e.ws.Nodup
  cel : ∀ (n : Nat) (p : Addr) (xs : List A), e.ws[n]? = some p → w[n]? = some xs → ∃ vs, H p = some (.lst vs) ∧ Reps K e H xs vs
def SR (K : PySem.W.Frag) (e : En) (H : Hp) (ss : SS) (σ : L2.St) : Prop := ss.length = σ.length ∧ ∀ (i : Nat) (a : A), ss[i]? = some (some a) → ∃ v, σ[i]? = some (some v) ∧ Rep K e H a v

section
variable {K : PySem.W.Frag} {e : En} {H H' H'' : Hp} {w w' : W}
theorem Xt.refl : Xt e H H := fun _ _ _ h => h
theorem Xt.trans (a : Xt e H H') (b : Xt e H' H'') : Xt e H H'' := fun p o n h => b p o n (a p o n h)
theorem Xt.new {p : Addr} {o : HO} (h : H p = none) : Xt e H (upd H p o) := fun a u _ q => by
  rw [upd_ne (ne_of_none q h)]
  exact q
theorem rd_xt {p : Addr} {u : HO} (x : Xt e H H') (n : p ∉ e.ws) (h : Rd H p u) : Rd H' p u := by
  rcases h with h | ⟨o, h⟩
  · exact .inl (x _ _ n h)
  · exact .inr ⟨o, x _ _ n h⟩
mutual
theorem Rep.mono (sub : ∀ p ∈ e.ws, e.M p) (x : Xt e H H') : ∀ (a : A) (v : V), Rep K e H a v → Rep K e H' a v
  | .non, _, h => h
  | .bl _, _, h => h
  | .int _, _, h => h
  | .str _, _, h => h
  | .txt _, _, h => h
  | .cell _, _, h => h
  | .tup xs, v, h => by
    obtain ⟨p, vs, e1, h1, h2⟩ := h
    refine ⟨p, vs, e1, ?_, Reps.mono sub x xs vs h2⟩
    rcases h1 with ⟨m, r⟩ | r
    · exact .inl ⟨m, rd_xt x (fun z => m (sub p z)) r⟩
    · exact .inr r
  | .lst xs, v, h => by
    obtain ⟨p, vs, e1, ⟨m, r⟩, h2⟩ := h
    exact ⟨p, vs, e1, ⟨m, x _ _ (fun z => m (sub p z)) r⟩, Reps.mono sub x xs vs h2⟩
  | .ins lo up le, v, h => by
    obtain ⟨p, dx, v1, v2, v3, e1, ⟨m, r⟩, h1, h2, h3⟩ := h
    exact ⟨p, dx, v1, v2, v3, e1, ⟨m, x _ _ (fun z => m (sub p z)) r⟩, Rep.mono sub x lo v1 h1, Rep.mono sub x up v2 h2, Rep.mono sub x le v3 h3⟩
theorem Reps.mono (sub : ∀ p ∈ e.ws, e.M p) (x : Xt e H H') : ∀ (xs : List A) (vs : List V), Reps K e H xs vs → Reps K e H' xs vs
  | [], _, h => h
  | a :: xs, vs, h => by
    obtain ⟨u, us, e1, h1, h2⟩ := h
    exact ⟨u, us, e1, Rep.mono sub x a u h1, Reps.mono sub x xs us h2⟩
end
theorem Ok.rep (o : Ok K e H w) (x : Xt e H H') {a : A} {v : V} (h : Rep K e H a v) : Rep K e H' a v := Rep.mono o.sub x a v h
theorem Ok.reps (o : Ok K e H w) (x : Xt e H H') {a : List A} {v : List V} (h : Reps K e H a v) : Reps K e H' a v := Reps.mono o.sub x a v h
theorem Ok.sr (o : Ok K e H w) (x : Xt e H H') {ss : SS} {σ : L2.St} (h : SR K e H ss σ) : SR K e H' ss σ := ⟨h.1, fun i a q => by
  obtain ⟨v, h1, h2⟩ := h.2 i a q
  exact ⟨v, h1, o.rep x h2⟩⟩
/-- all that is tracked stands: the cells stand too -/
theorem Ok.grow (o : Ok K e H w) (x : ∀ a u, H a = some u → H' a = some u) : Ok K e H' w := by
  have xt : Xt e H H' := fun a u _ q => x a u q
  refine ⟨o.sub, fun p m z => ?_, o.len, o.nod, fun n p xs h1 h2 => ?_⟩
  · cases q : H p with
    | none => exact o.live p m q
    | some u =>
      rw [x _ _ q] at z
      cases z
  · obtain ⟨vs, h3, h4⟩ := o.cel n p xs h1 h2
    exact ⟨vs, x _ _ h3, o.reps xt h4⟩
theorem Ok.fresh (o : Ok K e H w) {p : Addr} (h : H p = none) : ¬ e.M p := fun m => o.live p m h
theorem Ok.new (o : Ok K e H w) {p : Addr} {u : HO} (h : H p = none) : Ok K e (upd H p u) w := o.grow fun a x q => by
  rw [upd_ne (ne_of_none q h)]
  exact q
theorem Reps.length : ∀ {xs : List A} {vs : List V}, Reps K e H xs vs → xs.length = vs.length
  | [], _, h => by
    cases (show _ = [] from h)
    rfl
  | _ :: _, _, h => by
    obtain ⟨u, us, e1, _, h2⟩ := h
    rw [e1, List.length_cons, List.length_cons, Reps.length h2]
theorem Reps.get : ∀ {xs : List A} {vs : List V} {i : Nat} {a : A}, Reps K e H xs vs → xs[i]? = some a → ∃ v, vs[i]? = some v ∧ Rep K e H a v
  | [], _, _, _, _, q => by simp at q
  | x :: xs, _, i, a, h, q => by
    obtain ⟨u, us, e1, h1, h2⟩ := h
    subst e1
    cases i with
    | zero =>
      have : x = a := by simpa using q
      subst this
      exact ⟨u, rfl, h1⟩
    | succ n =>
      have q2 : xs[n]? = some a := by simpa using q
      obtain ⟨v, h3, h4⟩ := Reps.get h2 q2
      exact ⟨v, by simpa using h3, h4⟩
theorem Reps.append : ∀ {xs ys : List A} {vs us : List V}, Reps K e H xs vs → Reps K e H ys us → Reps K e H (xs ++ ys) (vs ++ us)
  | [], _, _, _, h, g => by
    rw [show _ = [] from h]
    exact g
  | x :: xs, ys, _, _, h, g => by
    obtain ⟨u, us, e1, h1, h2⟩ := h
    subst e1
    exact ⟨u, us ++ _, rfl, h1, Reps.append h2 g⟩
theorem Reps.take : ∀ {xs : List A} {vs : List V} (n : Nat), Reps K e H xs vs → Reps K e H (xs.take n) (vs.take n)
  | _, _, 0, _ => by simp [Reps]
  | [], _, n + 1, h => by
    rw [show _ = [] from h]
    simp [Reps]
  | x :: xs, _, n + 1, h => by
    obtain ⟨u, us, e1, h1, h2⟩ := h
    subst e1
    exact ⟨u, us.take n, rfl, h1, Reps.take n h2⟩
theorem Reps.drop : ∀ {xs : List A} {vs : List V} (n : Nat), Reps K e H xs vs → Reps K e H (xs.drop n) (vs.drop n)
  | _, _, 0, h => h
  | [], _, n + 1, h => by
    rw [show _ = [] from h]
    simp [Reps]
  | x :: xs, _, n + 1, h => by
    obtain ⟨u, us, e1, h1, h2⟩ := h
    subst e1
    exact Reps.drop n h2
theorem Reps.set : ∀ {xs : List A} {vs : List V} (n : Nat) {a : A} {v : V}, Reps K e H xs vs → Rep K e H a v → Reps K e H (xs.set n a) (vs.set n v)
  | [], _, _, _, _, h, _ => by
    rw [show _ = [] from h]
    simp [Reps]
  | x :: xs, _, n, a, v, h, g => by
    obtain ⟨u, us, e1, h1, h2⟩ := h
    subst e1
    cases n with
    | zero => exact ⟨v, us, rfl, g, h2⟩
    | succ n => exact ⟨u, us.set n v, rfl, h1, Reps.set n h2 g⟩
theorem Reps.nil_iff {xs : List A} {vs : List V} (h : Reps K e H xs vs) : vs = [] ↔ xs = [] := by
  have q := h.length
  constructor
  · rintro rfl
    exact List.length_eq_zero_iff.mp q
  · rintro rfl
    exact h
end

/-! ### readings -/
section
variable (K : PySem.W.Frag)
def Post (e : En) (H : Hp) (w' : W) (a : A) (Q : VK) : Prop := ∀ v H', Xt e H H' → Ok K e H' w' → Rep K e H' a v → Q v H'
def RdE (t : TE) (g : GE) : Prop := ∀ e σ ss H w a w', Ok K e H w → SR K e H ss σ → g ss w = some (a, w') → ∀ Q, Post K e H w' a Q → t σ H Q
def RdA (t : TA) (g : GA) : Prop := ∀ e σ ss H w as w', Ok K e H w → SR K e H ss σ → g ss w = some (as, w') → ∀ Q : List V → Hp → Prop, (∀ vs H', Xt e H H' → Ok K e H' w' → Reps K e H' as vs → Q vs H') → t σ H Q
def RdT (t : TT) (g : GT) : Prop := ∀ e σ ss H w b w', Ok K e H w → SR K e H ss σ → g ss w = some (b, w') → ∀ Q : Bool → Hp → Prop, (∀ H', Xt e H H' → Ok K e H' w' → Q b H') → t σ H Q
/-- an operator by values -/
def RdR (r : R2) (f : A → A → Option A) : Prop := ∀ e H w x y a b z, Ok K e H w → Rep K e H a x → Rep K e H b y → f a b = some z → ∀ Q, Post K e H w z Q → r x y H Q
def RdU (r : V → Hp → VK → Prop) (f : A → Option A) : Prop := ∀ e H w x a z, Ok K e H w → Rep K e H a x → f a = some z → ∀ Q, Post K e H w z Q → r x H Q
def RdB (r : List V → Hp → VK → Prop) (f : List A → Option A) : Prop := ∀ e H w vs as z, Ok K e H w → Reps K e H as vs → f as = some z → ∀ Q, Post K e H w z Q → r vs H Q
end
section
variable {K : PySem.W.Frag} {e : En} {H H' : Hp} {w w' : W}
theorem Post.here {a : A} {v : V} {Q : VK} (q : Post K e H w a Q) (o : Ok K e H w) (r : Rep K e H a v) : Q v H := q v H Xt.refl o r
theorem Post.tup {xs : List A} {vs : List V} {Q : VK} {p : Addr} (q : Post K e H w (.tup xs) Q) (o : Ok K e H w) (r : Reps K e H xs vs) (hp : H p = none) : Q (.ref p) (upd H p (.tup vs)) :=
  q _ _ (Xt.new hp) (o.new hp) ⟨p, vs, rfl, .inl ⟨o.fresh hp, .inl upd_same⟩, o.reps (Xt.new hp) r⟩
theorem Post.lst {xs : List A} {vs : List V} {Q : VK} {p : Addr} (q : Post K e H w (.lst xs) Q) (o : Ok K e H w) (r : Reps K e H xs vs) (hp : H p = none) : Q (.ref p) (upd H p (.lst vs)) :=
  q _ _ (Xt.new hp) (o.new hp) ⟨p, vs, rfl, ⟨o.fresh hp, upd_same⟩, o.reps (Xt.new hp) r⟩
theorem Rep.tupSq {xs : List A} {v : V} (h : Rep K e H (.tup xs) v) : ∃ p vs, v = .ref p ∧ SqT K H p vs ∧ Reps K e H xs vs := by
  obtain ⟨p, vs, e1, h1, h2⟩ := h
  refine ⟨p, vs, e1, ?_, h2⟩
  rcases h1 with ⟨_, h1⟩ | h1
  · exact .inl h1
  · exact h1.sq H
theorem Rep.lstSq {xs : List A} {v : V} (h : Rep K e H (.lst xs) v) : ∃ p vs, v = .ref p ∧ SqL K H p vs ∧ Reps K e H xs vs := by
  obtain ⟨p, vs, e1, ⟨_, h1⟩, h2⟩ := h
  exact ⟨p, vs, e1, SqL.of h1, h2⟩
theorem ok_small {n : Nat} (h : small n = true) : n ≤ sizeLine := Nat.le_trans (of_decide_eq_true h) (by decide)
theorem ok_small' {n : Nat} (h : small n = true) : n < sizeLine := Nat.lt_of_le_of_lt (of_decide_eq_true h) (by decide)

theorem rd_var {i : Nat} : RdE K (tVar i) (xVar i) := by
  intro e σ ss H w a w' o s h Q q
  unfold xVar at h
  split at h
  · rename_i b hb
    simp only [Option.some.injEq, Prod.mk.injEq] at h
    obtain ⟨rfl, rfl⟩ := h
    obtain ⟨v, h1, h2⟩ := s.2 i _ hb
    exact ⟨v, h1, q.here o h2⟩
  · cases h
theorem rd_c {v : V} {a : A} (h : ∀ e H, Rep K e H a v) : RdE K (tC v) (xC a) := by
  intro e σ ss H w a' w' o s g Q q
  simp only [xC, Option.some.injEq, Prod.mk.injEq] at g
  obtain ⟨rfl, rfl⟩ := g
  exact q.here o (h e H)
theorem rd_op {r : R2} {f : A → A → Option A} {ta tb : TE} {ga gb : GE} (hr : RdR K r f) (ha : RdE K ta ga) (hb : RdE K tb gb) : RdE K (tOp r ta tb) (xOp f ga gb) := by
  intro e σ ss H w z w' o s h Q q
  unfold xOp at h
  obtain ⟨⟨x, w1⟩, h1, h⟩ := Option.bind_eq_some_iff.mp h
  obtain ⟨⟨y, w2⟩, h2, h⟩ := Option.bind_eq_some_iff.mp h
  obtain ⟨z', h3, h⟩ := Option.map_eq_some_iff.mp h
  simp only [Prod.mk.injEq] at h
  obtain ⟨rfl, rfl⟩ := h
  refine ha e σ ss H w x w1 o s h1 _ fun v1 H1 x1 o1 r1 => ?_
  refine hb e σ ss H1 w1 y w2 o1 (o.sr x1 s) h2 _ fun v2 H2 x2 o2 r2 => ?_
  refine hr e H2 w2 v1 v2 x y z' o2 (o1.rep x2 r1) r2 h3 Q fun v H3 x3 o3 r3 => ?_
  exact q v H3 (x1.trans (x2.trans x3)) o3 r3
theorem rd_un {r : V → Hp → VK → Prop} {f : A → Option A} {ta : TE} {ga : GE} (hr : RdU K r f) (ha : RdE K ta ga) : RdE K (tUn r ta) (xUn f ga) := by
  intro e σ ss H w z w' o s h Q q
  unfold xUn at h
  obtain ⟨⟨x, w1⟩, h1, h⟩ := Option.bind_eq_some_iff.mp h
  obtain ⟨z', h3, h⟩ := Option.map_eq_some_iff.mp h
  simp only [Prod.mk.injEq] at h
  obtain ⟨rfl, rfl⟩ := h
  refine ha e σ ss H w x w1 o s h1 _ fun v1 H1 x1 o1 r1 => ?_
  refine hr e H1 w1 v1 x z' o1 r1 h3 Q fun v H3 x3 o3 r3 => ?_
  exact q v H3 (x1.trans x3) o3 r3
theorem rd_nilA : RdA K tNil xNilA := by
  intro e σ ss H w as w' o s h Q q
  simp only [xNilA, Option.some.injEq, Prod.mk.injEq] at h
  obtain ⟨rfl, rfl⟩ := h
  exact q [] H Xt.refl o rfl
theorem rd_consA {ta : TE} {tr : TA} {ga : GE} {gr : GA} (ha : RdE K ta ga) (hr : RdA K tr gr) : RdA K (tCons ta tr) (xConsA ga gr) := by
  intro e σ ss H w as w' o s h Q q
  unfold xConsA at h
  obtain ⟨⟨x, w1⟩, h1, h⟩ := Option.bind_eq_some_iff.mp h
  obtain ⟨⟨xs, w2⟩, h2, h⟩ := Option.map_eq_some_iff.mp h
  simp only [Prod.mk.injEq] at h
  obtain ⟨rfl, rfl⟩ := h
  refine ha e σ ss H w x w1 o s h1 _ fun v1 H1 x1 o1 r1 => ?_
  refine hr e σ ss H1 w1 xs w2 o1 (o.sr x1 s) h2 _ fun vs H2 x2 o2 r2 => ?_
  exact q (v1 :: vs) H2 (x1.trans x2) o2 ⟨v1, vs, rfl, o1.rep x2 r1, r2⟩
theorem rd_starA {ta : TE} {tr : TA} {ga : GE} {gr : GA} (ha : RdE K ta ga) (hr : RdA K tr gr) : RdA K (StX.tStar K ta tr) (xStarA ga gr) := by
  intro e σ ss H w as w' o s h Q q
  unfold xStarA at h
  obtain ⟨⟨x, w1⟩, h1, h⟩ := Option.bind_eq_some_iff.mp h
  cases x with
  | tup xs =>
    obtain ⟨⟨ys, w2⟩, h2, h⟩ := Option.map_eq_some_iff.mp h
    simp only [Prod.mk.injEq] at h
    obtain ⟨rfl, rfl⟩ := h
    refine ha e σ ss H w _ w1 o s h1 _ fun v1 H1 x1 o1 r1 => ?_
    obtain ⟨p, vs, e1, h3, h4⟩ := r1.tupSq
    refine ⟨p, vs, e1, .inl h3, ?_⟩
    refine hr e σ ss H1 w1 ys w2 o1 (o.sr x1 s) h2 _ fun us H2 x2 o2 r2 => ?_
    exact q (vs ++ us) H2 (x1.trans x2) o2 ((o1.reps x2 h4).append r2)
  | lst xs =>
    obtain ⟨⟨ys, w2⟩, h2, h⟩ := Option.map_eq_some_iff.mp h
    simp only [Prod.mk.injEq] at h
    obtain ⟨rfl, rfl⟩ := h
    refine ha e σ ss H w _ w1 o s h1 _ fun v1 H1 x1 o1 r1 => ?_
    obtain ⟨p, vs, e1, h3, h4⟩ := r1.lstSq
    refine ⟨p, vs, e1, .inr h3, ?_⟩
    refine hr e σ ss H1 w1 ys w2 o1 (o.sr x1 s) h2 _ fun us H2 x2 o2 r2 => ?_
    exact q (vs ++ us) H2 (x1.trans x2) o2 ((o1.reps x2 h4).append r2)
  | _ => cases h
theorem rd_tup {ta : TA} {ga : GA} (ha : RdA K ta ga) : RdE K (tTup ta) (xTup ga) := by
  intro e σ ss H w z w' o s h Q q
  unfold xTup at h
  obtain ⟨⟨xs, w1⟩, h1, h⟩ := Option.bind_eq_some_iff.mp h
  split at h
  · rename_i hs
    simp only [Option.some.injEq, Prod.mk.injEq] at h
    obtain ⟨rfl, rfl⟩ := h
    refine ha e σ ss H w xs w1 o s h1 _ fun vs H1 x1 o1 r1 => ⟨?_, fun p hp => ?_⟩
    · rw [← r1.length]
      exact ok_small hs
    · exact Post.tup (fun v H2 x2 o2 r2 => q v H2 (x1.trans x2) o2 r2) o1 r1 hp
  · cases h
theorem rd_lst {ta : TA} {ga : GA} (ha : RdA K ta ga) : RdE K (tLst ta) (xLst ga) := by
  intro e σ ss H w z w' o s h Q q
  unfold xLst at h
  obtain ⟨⟨xs, w1⟩, h1, h⟩ := Option.bind_eq_some_iff.mp h
  split at h
  · rename_i hs
    simp only [Option.some.injEq, Prod.mk.injEq] at h
    obtain ⟨rfl, rfl⟩ := h
    refine ha e σ ss H w xs w1 o s h1 _ fun vs H1 x1 o1 r1 => ⟨?_, fun p hp => ?_⟩
    · rw [← r1.length]
      exact ok_small hs
    · exact Post.lst (fun v H2 x2 o2 r2 => q v H2 (x1.trans x2) o2 r2) o1 r1 hp
  · cases h
theorem rd_blt {r : List V → Hp → VK → Prop} {f : List A → Option A} {ta : TA} {ga : GA} (hr : RdB K r f) (ha : RdA K ta ga) : RdE K (tCB r ta) (xBlt f ga) := by
  intro e σ ss H w z w' o s h Q q
  unfold xBlt at h
  obtain ⟨⟨x, w1⟩, h1, h⟩ := Option.bind_eq_some_iff.mp h
  obtain ⟨z', h3, h⟩ := Option.map_eq_some_iff.mp h
  simp only [Prod.mk.injEq] at h
  obtain ⟨rfl, rfl⟩ := h
  refine ha e σ ss H w x w1 o s h1 _ fun v1 H1 x1 o1 r1 => ?_
  refine hr e H1 w1 v1 x z' o1 r1 h3 Q fun v H3 x3 o3 r3 => ?_
  exact q v H3 (x1.trans x3) o3 r3
/-- a def's promise: what f tells -/
def spG (K : PySem.W.Frag) (n : Nat) (f : GF) : Sp := fun vs H Q _ => vs.length = n ∧ ∃ e as w a w', Ok K e H w ∧ Reps K e H as vs ∧ f as w = some (a, w') ∧ Post K e H w' a Q
theorem rd_call {n : Nat} {f : GF} {E : XK} {ta : TA} {ga : GA} (ha : RdA K ta ga) (hn : ∀ as w r, f as w = some r → as.length = n) : RdE K (tCall (spG K n f) [] E ta) (xCall f ga) := by
  intro e σ ss H w z w' o s h Q q
  unfold xCall at h
  obtain ⟨⟨x, w1⟩, h1, h⟩ := Option.bind_eq_some_iff.mp h
  refine ha e σ ss H w x w1 o s h1 _ fun vs H1 x1 o1 r1 => ?_
  refine ⟨?_, e, x, w1, z, w', o1, ?_, h, fun v H3 x3 o3 r3 => q v H3 (x1.trans x3) o3 r3⟩
  · rw [List.append_nil, ← r1.length]
    exact hn _ _ _ h
  · rw [List.append_nil]
    exact r1
theorem rd_if {t : TT} {ta tb : TE} {gt : GT} {ga gb : GE} (ht : RdT K t gt) (ha : RdE K ta ga) (hb : RdE K tb gb) : RdE K (tIf t ta tb) (xIf gt ga gb) := by
  intro e σ ss H w z w' o s h Q q
  unfold xIf at h
  obtain ⟨⟨b, w1⟩, h1, h⟩ := Option.bind_eq_some_iff.mp h
  refine ht e σ ss H w b w1 o s h1 _ fun H1 x1 o1 => ?_
  cases b with
  | true => exact ha e σ ss H1 w1 z w' o1 (o.sr x1 s) h Q fun v H3 x3 o3 r3 => q v H3 (x1.trans x3) o3 r3
  | false => exact hb e σ ss H1 w1 z w' o1 (o.sr x1 s) h Q fun v H3 x3 o3 r3 => q v H3 (x1.trans x3) o3 r3
theorem rd_andV {ta tb : TE} {ga gb : GE} (ha : RdE K ta ga) (hb : RdE K tb gb) : RdE K (tAndV ta tb) (xAndV ga gb) := by
  intro e σ ss H w z w' o s h Q q
  unfold xAndV at h
  obtain ⟨⟨x, w1⟩, h1, h⟩ := Option.bind_eq_some_iff.mp h
  refine ha e σ ss H w x w1 o s h1 _ fun v H1 x1 o1 r1 => ?_
  cases x with
  | bl b =>
    refine ⟨b, r1, ?_⟩
    cases b with
    | true => exact hb e σ ss H1 w1 z w' o1 (o.sr x1 s) h Q fun v H3 x3 o3 r3 => q v H3 (x1.trans x3) o3 r3
    | false =>
      simp only [Option.some.injEq, Prod.mk.injEq] at h
      obtain ⟨rfl, rfl⟩ := h
      exact q _ H1 x1 o1 rfl
  | _ => cases h
theorem rd_orV {ta tb : TE} {ga gb : GE} (ha : RdE K ta ga) (hb : RdE K tb gb) : RdE K (tOrV ta tb) (xOrV ga gb) := by
  intro e σ ss H w z w' o s h Q q
  unfold xOrV at h
  obtain ⟨⟨x, w1⟩, h1, h⟩ := Option.bind_eq_some_iff.mp h
  refine ha e σ ss H w x w1 o s h1 _ fun v H1 x1 o1 r1 => ?_
  cases x with
  | bl b =>
    refine ⟨b, r1, ?_⟩
    cases b with
    | false => exact hb e σ ss H1 w1 z w' o1 (o.sr x1 s) h Q fun v H3 x3 o3 r3 => q v H3 (x1.trans x3) o3 r3
    | true =>
      simp only [Option.some.injEq, Prod.mk.injEq] at h
      obtain ⟨rfl, rfl⟩ := h
      exact q _ H1 x1 o1 rfl
  | _ => cases h
theorem rd_notV {ta : TE} {ga : GE} (ha : RdE K ta ga) : RdE K (tNotV ta) (xNotV ga) := by
  intro e σ ss H w z w' o s h Q q
  unfold xNotV at h
  obtain ⟨⟨x, w1⟩, h1, h⟩ := Option.bind_eq_some_iff.mp h
  refine ha e σ ss H w x w1 o s h1 _ fun v H1 x1 o1 r1 => ?_
  cases x with
  | bl b =>
    simp only [Option.some.injEq, Prod.mk.injEq] at h
    obtain ⟨rfl, rfl⟩ := h
    exact ⟨b, r1, q _ H1 x1 o1 rfl⟩
  | _ => cases h
theorem rd_T {ta : TE} {ga : GE} (ha : RdE K ta ga) : RdT K (tTest ta) (xT ga) := by
  intro e σ ss H w z w' o s h Q q
  unfold xT at h
  obtain ⟨⟨x, w1⟩, h1, h⟩ := Option.bind_eq_some_iff.mp h
  refine ha e σ ss H w x w1 o s h1 _ fun v H1 x1 o1 r1 => ?_
  cases x with
  | bl b =>
    simp only [Option.some.injEq, Prod.mk.injEq] at h
    obtain ⟨rfl, rfl⟩ := h
    exact ⟨b, r1, q H1 x1 o1⟩
  | _ => cases h
theorem rd_TB {ta : TE} {ga : GE} (ha : RdE K ta ga) : RdT K (tB ta) (xT ga) := rd_T ha
theorem rd_and {ta tb : TT} {ga gb : GT} (ha : RdT K ta ga) (hb : RdT K tb gb) : RdT K (tAnd ta tb) (xAnd ga gb) := by
  intro e σ ss H w z w' o s h Q q
  unfold xAnd at h
  obtain ⟨⟨b, w1⟩, h1, h⟩ := Option.bind_eq_some_iff.mp h
  refine ha e σ ss H w b w1 o s h1 _ fun H1 x1 o1 => ?_
  cases b with
  | true => exact hb e σ ss H1 w1 z w' o1 (o.sr x1 s) h Q fun H3 x3 o3 => q H3 (x1.trans x3) o3
  | false =>
    have h2 : some (false, w1) = some (z, w') := h
    simp only [Option.some.injEq, Prod.mk.injEq] at h2
    obtain ⟨rfl, rfl⟩ := h2
    exact q H1 x1 o1
theorem rd_or {ta tb : TT} {ga gb : GT} (ha : RdT K ta ga) (hb : RdT K tb gb) : RdT K (tOr ta tb) (xOr ga gb) := by
  intro e σ ss H w z w' o s h Q q
  unfold xOr at h
  obtain ⟨⟨b, w1⟩, h1, h⟩ := Option.bind_eq_some_iff.mp h
  refine ha e σ ss H w b w1 o s h1 _ fun H1 x1 o1 => ?_
  cases b with
  | false => exact hb e σ ss H1 w1 z w' o1 (o.sr x1 s) h Q fun H3 x3 o3 => q H3 (x1.trans x3) o3
  | true =>
    have h2 : some (true, w1) = some (z, w') := h
    simp only [Option.some.injEq, Prod.mk.injEq] at h2
    obtain ⟨rfl, rfl⟩ := h2
    exact q H1 x1 o1
theorem rd_not {ta : TT} {ga : GT} (ha : RdT K ta ga) : RdT K (tNot ta) (xNot ga) := by
  intro e σ ss H w z w' o s h Q q
  unfold xNot at h
  obtain ⟨⟨b, w1⟩, h1, h⟩ := Option.map_eq_some_iff.mp h
  simp only [Prod.mk.injEq] at h
  obtain ⟨rfl, rfl⟩ := h
  exact ha e σ ss H w b w1 o s h1 _ fun H1 x1 o1 => q H1 x1 o1
end
end Sp
/-! LAY 2: operators and built-ins by values. -/
namespace Sp
open PySem PySem.Spec PyProof.Rows L2

theorem ofStr_inj {s t : String} (h : Str.ofString s = Str.ofString t) : s = t := by
  rw [Str.ofString_eq_toList, Str.ofString_eq_toList] at h
  have h1 : (s.toList.map Char.toNat).toArray = (t.toList.map Char.toNat).toArray := congrArg Str.cps h
  have h2 : s.toList.map Char.toNat = t.toList.map Char.toNat := by simpa using h1
  have inj : ∀ (a b : List Char), a.map Char.toNat = b.map Char.toNat → a = b := by
    intro a
    induction a with
    | nil =>
      intro b hb
      cases b with
      | nil => rfl
      | cons _ _ => cases hb
    | cons c a ih =>
      intro b hb
      cases b with
      | nil => cases hb
      | cons d b =>
        rw [List.map_cons, List.map_cons] at hb
        injection hb with h3 h4
        have h5 : c = d := by
          apply Char.ext
          apply UInt32.toNat_inj.mp
          exact h3
        rw [h5, ih b h4]
  exact String.toList_inj.mp (inj _ _ h2)
theorem ofStr_dec (s t : String) : decide (Str.ofString s = Str.ofString t) = decide (s = t) := by
  by_cases h : s = t
  · rw [h, decide_eq_true rfl, decide_eq_true rfl]
  · rw [decide_eq_false h, decide_eq_false fun z => h (ofStr_inj z)]
/-! as data -/
mutual
def A.toD : A → PyData
  | .non => .none
  | .bl b => .bool b
  | .int i => .int i
  | .str s => .str (Str.ofString s)
  | .tup xs => .tuple (A.toDs xs)
  | .lst xs => .list (A.toDs xs)
  | _ => .none
def A.toDs : List A → List PyData
  | [] => []
  | x :: xs => A.toD x :: A.toDs xs
end
theorem word_ok {s : String} (h : s ∈ words) : PyData.strOk (Str.ofString s) = true := by
  have key : words.all (fun s => PyData.strOk (Str.ofString s)) = true := by decide +kernel
  exact List.all_eq_true.mp key s h
section
variable {K : PySem.W.Frag} {e : En} {H : Hp}
mutual
theorem rep_dp : ∀ (n : Nat) (a : A) (v : V), A.dat n a = true → Rep K e H a v → Dp K H v (A.toD a)
  | _, .non, v, _, h => by
    rw [show v = _ from h]
    exact .non
  | _, .int i, v, _, h => by
    rw [show v = _ from h]
    exact .int i
  | _, .str s, v, _, h => by
    rw [show v = _ from h]
    exact .str _
  | n + 1, .lst xs, v, d, h => by
    obtain ⟨p, vs, rfl, h1, h2⟩ := h.lstSq
    exact .lst h1 (reps_dp n xs vs d h2)
  | n + 1, .tup xs, v, d, h => by
    obtain ⟨p, vs, rfl, h1, h2⟩ := h.tupSq
    exact .tup h1 (reps_dp n xs vs d h2)
  | 0, .lst xs, _, d, _ => by cases d
  | 0, .tup xs, _, d, _ => by cases d
  | 0, .bl _, _, d, _ => by cases d
  | _ + 1, .bl _, _, d, _ => by cases d
  | 0, .cell _, _, d, _ => by cases d
  | _ + 1, .cell _, _, d, _ => by cases d
  | 0, .txt _, _, d, _ => by cases d
  | _ + 1, .txt _, _, d, _ => by cases d
  | 0, .ins _ _ _, _, d, _ => by cases d
  | _ + 1, .ins _ _ _, _, d, _ => by cases d
theorem reps_dp : ∀ (n : Nat) (xs : List A) (vs : List V), A.dats n xs = true → Reps K e H xs vs → DpAll K H vs (A.toDs xs)
  | _, [], vs, _, h => by
    rw [show vs = _ from h]
    exact .nil
  | n, x :: xs, vs, d, h => by
    obtain ⟨u, us, rfl, h1, h2⟩ := h
    obtain ⟨d1, d2⟩ := Bool.and_eq_true_iff.mp d
    exact .cons (rep_dp n x u d1 h1) (reps_dp n xs us d2 h2)
end
mutual
theorem dat_shape : ∀ (n : Nat) (a : A), A.dat n a = true → (A.toD a).canLay0 = true ∧ (A.toD a).depth ≤ n
  | _, .non, _ => ⟨rfl, Nat.zero_le _⟩
  | _, .int i, _ => ⟨rfl, Nat.zero_le _⟩
  | n, .str s, d => ⟨word_ok (of_decide_eq_true (by cases n <;> exact d)), Nat.zero_le _⟩
  | n + 1, .lst xs, d => by
    obtain ⟨h1, h2⟩ := dats_shape n xs d
    exact ⟨h1, Nat.succ_le_succ h2⟩
  | n + 1, .tup xs, d => by
    obtain ⟨h1, h2⟩ := dats_shape n xs d
    exact ⟨h1, Nat.succ_le_succ h2⟩
  | 0, .lst xs, d => by cases d
  | 0, .tup xs, d => by cases d
  | 0, .bl _, d => by cases d
  | _ + 1, .bl _, d => by cases d
  | 0, .cell _, d => by cases d
  | _ + 1, .cell _, d => by cases d
  | 0, .txt _, d => by cases d
  | _ + 1, .txt _, d => by cases d
  | 0, .ins _ _ _, d => by cases d
  | _ + 1, .ins _ _ _, d => by cases d
theorem dats_shape : ∀ (n : Nat) (xs : List A), A.dats n xs = true → PyData.canLayAll0 (A.toDs xs) = true ∧ PyData.depthAll (A.toDs xs) ≤ n
  | _, [], _ => ⟨rfl, Nat.zero_le _⟩
  | n, x :: xs, d => by
    obtain ⟨d1, d2⟩ := Bool.and_eq_true_iff.mp d
    obtain ⟨h1, h2⟩ := dat_shape n x d1
    obtain ⟨h3, h4⟩ := dats_shape n xs d2
    refine ⟨Bool.and_eq_true_iff.mpr ⟨h1, h3⟩, ?_⟩
    show max _ _ ≤ n
    omega
end
mutual
theorem dat_eqv : ∀ (n m : Nat) (a b : A), A.dat n a = true → A.dat m b = true → PyData.eqv (A.toD a) (A.toD b) = A.eqv a b
  | n, m, .non, b, _, d => by cases b <;> first | rfl | (cases m <;> cases d)
  | n, m, .int i, b, _, d => by cases b <;> first | rfl | (cases m <;> cases d) | exact (Bool.beq_eq_decide_eq _ _)
  | n, m, .str s, b, _, d => by
    cases b <;> first | rfl | (cases m <;> cases d) | skip
    rename_i t
    show (Str.ofString s == Str.ofString t) = decide (s = t)
    rw [Bool.beq_eq_decide_eq, ofStr_dec]
  | n + 1, m, .lst xs, b, c, d => by
    cases b with
    | lst ys =>
      cases m with
      | zero => cases d
      | succ m => exact dats_eqv n m xs ys c d
    | _ => first | rfl | (cases m <;> cases d)
  | n + 1, m, .tup xs, b, c, d => by
    cases b with
    | tup ys =>
      cases m with
      | zero => cases d
      | succ m => exact dats_eqv n m xs ys c d
    | _ => first | rfl | (cases m <;> cases d)
  | 0, _, .lst xs, _, d, _ => by cases d
  | 0, _, .tup xs, _, d, _ => by cases d
  | 0, _, .bl _, _, d, _ => by cases d
  | _ + 1, _, .bl _, _, d, _ => by cases d
  | 0, _, .cell _, _, d, _ => by cases d
  | _ + 1, _, .cell _, _, d, _ => by cases d
  | 0, _, .txt _, _, d, _ => by cases d
  | _ + 1, _, .txt _, _, d, _ => by cases d
  | 0, _, .ins _ _ _, _, d, _ => by cases d
  | _ + 1, _, .ins _ _ _, _, d, _ => by cases d
theorem dats_eqv : ∀ (n m : Nat) (xs ys : List A), A.dats n xs = true → A.dats m ys = true → PyData.eqvAll (A.toDs xs) (A.toDs ys) = A.eqvs xs ys
  | _, _, [], [], _, _ => rfl
  | _, _, [], _ :: _, _, _ => rfl
  | _, _, _ :: _, [], _, _ => rfl
  | n, m, x :: xs, y :: ys, c, d => by
    obtain ⟨c1, c2⟩ := Bool.and_eq_true_iff.mp c
    obtain ⟨d1, d2⟩ := Bool.and_eq_true_iff.mp d
    show (PyData.eqv _ _ && PyData.eqvAll _ _) = (A.eqv x y && A.eqvs xs ys)
    rw [dat_eqv n m x y c1 d1, dats_eqv n m xs ys c2 d2]
end
end
mutual
theorem same_eq : ∀ (a b : A), A.same a b = true → a = b
  | .non, b, h => by cases b <;> first | rfl | cases h
  | .bl x, b, h => by cases b <;> first | (cases h; done) | exact congrArg A.bl (of_decide_eq_true h)
  | .int x, b, h => by cases b <;> first | (cases h; done) | exact congrArg A.int (of_decide_eq_true h)
  | .tup xs, b, h => by cases b <;> first | (cases h; done) | exact congrArg A.tup (sames_eq _ _ h)
  | .lst _, b, h => by cases b <;> cases h
  | .str _, b, h => by cases b <;> cases h
  | .cell _, b, h => by cases b <;> cases h
  | .txt _, b, h => by cases b <;> cases h
  | .ins _ _ _, b, h => by cases b <;> cases h
theorem sames_eq : ∀ (a b : List A), A.sames a b = true → a = b
  | [], [], _ => rfl
  | [], _ :: _, h => by cases h
  | _ :: _, [], h => by cases h
  | x :: xs, y :: ys, h => by
    obtain ⟨h1, h2⟩ := Bool.and_eq_true_iff.mp h
    rw [same_eq x y h1, sames_eq xs ys h2]
end

/-! ### operators -/
def rAddX (K : PySem.W.Frag) : R2 := fun x y H Q => rI0 (fun i j => .int (i + j)) x y H Q ∨ (rCatA K x y H Q ∨ rCat x y H Q)
def rEqX (K : PySem.W.Frag) : R2 := fun x y H Q => rEqD K x y H Q ∨ rEq x y H Q
def rNeX (K : PySem.W.Frag) : R2 := fun x y H Q => rNeD K x y H Q ∨ rNe x y H Q
def rIxX (K : PySem.W.Frag) : R2 := fun x y H Q => rIxT K x y H Q ∨ rIxL K x y H Q
def rIsX : R2 := fun x y H Q => y = .non ∧ Q (.bl (decide (x = .non))) H
def rNotX : R2 := fun x y H Q => y = .non ∧ Q (.bl (!decide (x = .non))) H
/-- // by any divisor but 0, below 2 ^ 9000 -/
def CDivX (_ j : Int) : Prop := j ≠ 0 ∧ j.natAbs.log2 < 9000
section
variable {X : Cx}
theorem op_addX : OpR X (binaryOp .Add) (rAddX X.K) := op_add.or (op_catA.or op_cat)
theorem op_eqX (hu : X.A.units + 64 < cLine) : OpR X (compareOp .Eq) (rEqX X.K) := (op_eqD hu).or op_eq
theorem op_neX (hu : X.A.units + 64 < cLine) : OpR X (compareOp .NotEq) (rNeX X.K) := (op_neD hu).or op_ne
theorem ix_X : IxR X (rIxX X.K) := ix_tup.or ix_list
theorem op_isX : OpR X (compareOp .Is) rIsX := op_isN
theorem op_notX : OpR X (compareOp .IsNot) rNotX := op_notN
theorem op_divX : OpR X (binaryOp .FloorDiv) (rI CDivX fun i j => .int (i.fdiv j)) := opI fun i j _ _ _ _ _ hc q => floordiv_int hc.1 q (.inl (PyProof.noPylong_of_log2 hc.2))
end
section
variable {K : PySem.W.Frag}
theorem rr_add : RdR K (rAddX K) fAdd := by
  intro e H w x y a b z o ra rb h Q q
  unfold fAdd at h
  split at h
  · rename_i i j
    cases (show x = V.int i from ra)
    cases (show y = V.int j from rb)
    cases h
    exact .inl ⟨i, j, rfl, rfl, q.here o rfl⟩
  · rename_i xs ys
    split at h
    · rename_i hs
      cases h
      obtain ⟨p, vs, rfl, h1, h2⟩ := ra.tupSq
      obtain ⟨p', us, rfl, h3, h4⟩ := rb.tupSq
      refine .inr (.inl ⟨p, p', vs, us, rfl, rfl, h1, h3, ?_, fun ez => ?_, fun _ ez => ?_, fun _ _ t ht => ?_⟩)
      · rw [← h2.length, ← h4.length]
        exact ok_small hs
      · rw [h2.nil_iff.mp ez] at q
        exact q.here o rb
      · rw [h4.nil_iff.mp ez, List.append_nil] at q
        exact q.here o ra
      · exact q.tup o (h2.append h4) ht
    · cases h
  · rename_i xs ys
    split at h
    · rename_i hs
      cases h
      obtain ⟨p, vs, rfl, ⟨_, h1⟩, h2⟩ := ra
      obtain ⟨p', us, rfl, ⟨_, h3⟩, h4⟩ := rb
      refine .inr (.inr ⟨p, p', vs, us, rfl, rfl, h1, h3, ?_, fun t ht => ?_⟩)
      · rw [← h2.length, ← h4.length]
        exact ok_small hs
      · exact q.lst o (h2.append h4) ht
    · cases h
  · cases h
theorem rr_int {g : Int → Int → V} {f : A → A → Option A} (hf : ∀ x y z, f x y = some z → ∃ i j, x = .int i ∧ y = .int j ∧ ∀ e H, Rep K e H z (g i j)) : RdR K (rI0 g) f := by
  intro e H w x y a b z o ra rb h Q q
  obtain ⟨i, j, rfl, rfl, r⟩ := hf _ _ _ h
  exact ⟨i, j, ra, rb, q.here o (r e H)⟩
theorem rr_intC {C : Int → Int → Prop} {g : Int → Int → V} {f : A → A → Option A} (hf : ∀ x y z, f x y = some z → ∃ i j, x = .int i ∧ y = .int j ∧ C i j ∧ ∀ e H, Rep K e H z (g i j)) : RdR K (rI C g) f := by
  intro e H w x y a b z o ra rb h Q q
  obtain ⟨i, j, rfl, rfl, c, r⟩ := hf _ _ _ h
  exact ⟨i, j, ra, rb, c, q.here o (r e H)⟩
theorem rr_sub : RdR K (rI0 fun i j => .int (i - j)) fSub := rr_int fun x y z h => by
  unfold fSub at h
  split at h
  · cases h
    exact ⟨_, _, rfl, rfl, fun _ _ => rfl⟩
  · cases h
theorem rr_mul : RdR K (rI CMulW fun i j => .int (i * j)) fMul := rr_intC fun x y z h => by
  unfold fMul at h
  split at h
  · split at h
    · rename_i c
      cases h
      unfold mulOk at c
      exact ⟨_, _, rfl, rfl, (of_decide_eq_true c : _ < _), fun _ _ => rfl⟩
    · cases h
  · cases h
theorem rr_div : RdR K (rI CDivX fun i j => .int (i.fdiv j)) fDivN := rr_intC fun x y z h => by
  unfold fDivN at h
  split at h
  · split at h
    · rename_i c
      cases h
      have c2 := of_decide_eq_true c
      exact ⟨_, _, rfl, rfl, c2, fun _ _ => rfl⟩
    · cases h
  · cases h
theorem rr_mod : RdR K (rI (fun _ j => 0 < j) fun i j => .int (i % j)) fMod := rr_intC fun x y z h => by
  unfold fMod at h
  split at h
  · split at h
    · rename_i c
      cases h
      exact ⟨_, _, rfl, rfl, of_decide_eq_true c, fun _ _ => rfl⟩
    · cases h
  · cases h
theorem rr_lt : RdR K (rI0 fun i j => .bl (decide (i < j))) fLt := rr_int fun x y z h => by
  unfold fLt at h
  split at h
  · cases h
    exact ⟨_, _, rfl, rfl, fun _ _ => rfl⟩
  · cases h
theorem rr_le : RdR K (rI0 fun i j => .bl (decide (i ≤ j))) fLe := rr_int fun x y z h => by
  unfold fLe at h
  split at h
  · cases h
    exact ⟨_, _, rfl, rfl, fun _ _ => rfl⟩
  · cases h
theorem rr_gt : RdR K (rI0 fun i j => .bl (decide (j < i))) fGt := rr_int fun x y z h => by
  unfold fGt at h
  split at h
  · cases h
    exact ⟨_, _, rfl, rfl, fun _ _ => rfl⟩
  · cases h
theorem rr_ge : RdR K (rI0 fun i j => .bl (decide (j ≤ i))) fGe := rr_int fun x y z h => by
  unfold fGe at h
  split at h
  · cases h
    exact ⟨_, _, rfl, rfl, fun _ _ => rfl⟩
  · cases h
theorem ru_neg : RdU K (rU fun i => .int (-i)) fNeg := by
  intro e H w x a z o ra h Q q
  unfold fNeg at h
  split at h
  · cases h
    exact ⟨_, ra, q.here o rfl⟩
  · cases h
theorem eqB_cases {x y : A} {b : Bool} (h : fEqB x y = some b) : (∃ c d, x = .bl c ∧ y = .bl d ∧ b = decide (c = d)) ∨ (∃ a, x = .txt a ∧ y = .txt a ∧ b = true) ∨ (A.dat 40 x = true ∧ A.dat 40 y = true ∧ b = A.eqv x y) := by
  unfold fEqB at h
  split at h
  · cases h
    exact .inl ⟨_, _, rfl, rfl, rfl⟩
  · split at h
    · rename_i a c hs
      cases h
      rw [same_eq _ _ hs]
      exact .inr (.inl ⟨_, rfl, rfl, rfl⟩)
    · cases h
  · split at h
    · rename_i hs
      cases h
      obtain ⟨h1, h2⟩ := Bool.and_eq_true_iff.mp hs
      exact .inr (.inr ⟨h1, h2, rfl⟩)
    · cases h
theorem shaped_of {a : A} (h : A.dat 40 a = true) : SeqAt.shaped (A.toD a) = true := by
  obtain ⟨h1, h2⟩ := dat_shape 40 a h
  exact Bool.and_eq_true_iff.mpr ⟨h1, decide_eq_true (by omega)⟩
theorem rr_eq : RdR K (rEqX K) fEq := by
  intro e H w x y a b z o ra rb h Q q
  obtain ⟨c, h1, h2⟩ := Option.map_eq_some_iff.mp h
  subst h2
  rcases eqB_cases h1 with ⟨c, d, rfl, rfl, rfl⟩ | ⟨t, rfl, rfl, rfl⟩ | ⟨d1, d2, rfl⟩
  · cases (show x = V.bl c from ra)
    cases (show y = V.bl d from rb)
    refine .inr ⟨rfl, ?_⟩
    rw [dec_bl, Bool.beq_eq_decide_eq]
    exact q.here o rfl
  · cases (show x = V.str _ from ra)
    cases (show y = V.str _ from rb)
    refine .inr ⟨rfl, ?_⟩
    rw [decide_eq_true rfl]
    exact q.here o rfl
  · refine .inl ⟨_, _, rep_dp 40 a x d1 ra, rep_dp 40 b y d2 rb, shaped_of d1, shaped_of d2, ?_⟩
    rw [dat_eqv 40 40 a b d1 d2]
    exact q.here o rfl
theorem rr_ne : RdR K (rNeX K) fNe := by
  intro e H w x y a b z o ra rb h Q q
  obtain ⟨c, h1, h2⟩ := Option.map_eq_some_iff.mp h
  subst h2
  rcases eqB_cases h1 with ⟨c, d, rfl, rfl, rfl⟩ | ⟨t, rfl, rfl, rfl⟩ | ⟨d1, d2, rfl⟩
  · cases (show x = V.bl c from ra)
    cases (show y = V.bl d from rb)
    refine .inr ⟨rfl, ?_⟩
    rw [dec_bl, Bool.beq_eq_decide_eq]
    exact q.here o rfl
  · cases (show x = V.str _ from ra)
    cases (show y = V.str _ from rb)
    refine .inr ⟨rfl, ?_⟩
    rw [decide_eq_true rfl]
    exact q.here o rfl
  · refine .inl ⟨_, _, rep_dp 40 a x d1 ra, rep_dp 40 b y d2 rb, shaped_of d1, shaped_of d2, ?_⟩
    rw [dat_eqv 40 40 a b d1 d2]
    exact q.here o rfl
theorem rep_non {e : En} {H : Hp} {a : A} {v : V} {z : A} (r : Rep K e H a v) (h : fIsN a = some z) : z = .bl (decide (v = .non)) := by
  cases a with
  | non =>
    cases h
    rw [show v = _ from r]
    rfl
  | bl _ =>
    cases h
    rw [show v = _ from r]
    rfl
  | int _ =>
    cases h
    rw [show v = _ from r]
    rfl
  | str _ =>
    cases h
    rw [show v = _ from r]
    rfl
  | txt _ =>
    cases h
    rw [show v = _ from r]
    rfl
  | tup _ =>
    cases h
    obtain ⟨p, vs, rfl, _⟩ := r
    rfl
  | lst _ =>
    cases h
    obtain ⟨p, vs, rfl, _⟩ := r
    rfl
  | cell _ => cases h
  | ins _ _ _ =>
    cases h
    obtain ⟨p, _, _, _, _, rfl, _⟩ := r
    rfl
theorem rep_nonN {e : En} {H : Hp} {a : A} {v : V} {z : A} (r : Rep K e H a v) (h : fNotN a = some z) : z = .bl (!decide (v = .non)) := by
  have key : ∃ b, fIsN a = some (.bl b) ∧ z = .bl (!b) := by
    cases a <;> first | (cases h; exact ⟨_, rfl, rfl⟩) | (cases h; done)
  obtain ⟨b, h1, rfl⟩ := key
  have h2 := rep_non r h1
  injection h2 with h3
  rw [h3]
theorem rd_isN {ta : TE} {ga : GE} (ha : RdE K ta ga) : RdE K (tOp rIsX ta (tC .non)) (xUn fIsN ga) := by
  intro e σ ss H w z w' o s h Q q
  unfold xUn at h
  obtain ⟨⟨x, w1⟩, h1, h⟩ := Option.bind_eq_some_iff.mp h
  obtain ⟨z', h3, h⟩ := Option.map_eq_some_iff.mp h
  simp only [Prod.mk.injEq] at h
  obtain ⟨rfl, rfl⟩ := h
  refine ha e σ ss H w x w1 o s h1 _ fun v1 H1 x1 o1 r1 => ⟨rfl, ?_⟩
  have h4 := rep_non r1 h3
  subst h4
  exact q _ H1 x1 o1 rfl
theorem rd_notN {ta : TE} {ga : GE} (ha : RdE K ta ga) : RdE K (tOp rNotX ta (tC .non)) (xUn fNotN ga) := by
  intro e σ ss H w z w' o s h Q q
  unfold xUn at h
  obtain ⟨⟨x, w1⟩, h1, h⟩ := Option.bind_eq_some_iff.mp h
  obtain ⟨z', h3, h⟩ := Option.map_eq_some_iff.mp h
  simp only [Prod.mk.injEq] at h
  obtain ⟨rfl, rfl⟩ := h
  refine ha e σ ss H w x w1 o s h1 _ fun v1 H1 x1 o1 r1 => ⟨rfl, ?_⟩
  have h4 := rep_nonN r1 h3
  subst h4
  exact q _ H1 x1 o1 rfl
theorem rr_isB : RdR K rIsB fIsB := by
  intro e H w x y a b z o ra rb h Q q
  unfold fIsB at h
  split at h
  · cases h
    exact ⟨_, _, ra, rb, q.here o rfl⟩
  · cases h
theorem atI_of {e : En} {H : Hp} {xs : List A} {vs : List V} {i : Int} {a : A} (r : Reps K e H xs vs) (h : A.ix xs i = some a) : ∃ v, atI vs i = some v ∧ Rep K e H a v := by
  have hl := r.length
  unfold A.ix at h
  unfold atI ixN
  split at h
  · rename_i h0
    have hlt : i.toNat < xs.length := (List.getElem?_eq_some_iff.mp h).1
    obtain ⟨v, h1, h2⟩ := r.get h
    refine ⟨v, ?_, h2⟩
    rw [if_pos h0, if_pos (by omega)]
    exact h1
  · rename_i h0
    split at h
    · rename_i h1
      obtain ⟨v, h2, h3⟩ := r.get h
      refine ⟨v, ?_, h3⟩
      rw [if_neg h0, if_pos (by omega)]
      rw [hl] at h2
      exact h2
    · cases h
theorem rr_ix : RdR K (rIxX K) fIx := by
  intro e H w x y a b z o ra rb h Q q
  unfold fIx at h
  split at h
  · obtain ⟨p, vs, rfl, h1, h2⟩ := ra.tupSq
    obtain ⟨v, h3, h4⟩ := atI_of h2 h
    exact .inl ⟨p, vs, _, v, rfl, rb, h1, h3, q.here o h4⟩
  · obtain ⟨p, vs, rfl, h1, h2⟩ := ra.lstSq
    obtain ⟨v, h3, h4⟩ := atI_of h2 h
    exact .inr ⟨p, vs, _, v, rfl, rb, h1, h3, q.here o h4⟩
  · cases h
theorem rd_ixC {ta tb : TE} {ga gb : GE} (ha : RdE K ta ga) (hb : RdE K tb gb) : RdE K (tOp (rIxX K) ta tb) (xIxC ga gb) := by
  intro e σ ss H w z w' o s h Q q
  unfold xIxC at h
  obtain ⟨⟨x, w1⟩, h1, h⟩ := Option.bind_eq_some_iff.mp h
  obtain ⟨⟨y, w2⟩, h2, h⟩ := Option.bind_eq_some_iff.mp h
  refine ha e σ ss H w x w1 o s h1 _ fun v1 H1 x1 o1 r1 => ?_
  refine hb e σ ss H1 w1 y w2 o1 (o.sr x1 s) h2 _ fun v2 H2 x2 o2 r2 => ?_
  dsimp only at h
  split at h
  · rename_i n i _
    obtain ⟨xs, h3, h⟩ := Option.bind_eq_some_iff.mp h
    obtain ⟨z', h4, h⟩ := Option.map_eq_some_iff.mp h
    simp only [Prod.mk.injEq] at h
    obtain ⟨rfl, rfl⟩ := h
    obtain ⟨p, h5, rfl⟩ := r1
    obtain ⟨vs, h6, h7⟩ := o2.cel n p xs h5 h3
    obtain ⟨v, h8, h9⟩ := atI_of h7 h4
    exact .inr ⟨p, vs, i, v, rfl, r2, SqL.of h6, h8, q v H2 (x1.trans x2) o2 h9⟩
  · cases h
theorem strs_vals {e : En} {H : Hp} : ∀ {xs : List A} {vs : List V} {ts : List String}, Reps K e H xs vs → strsOf xs = some ts → vs = ts.map fun t => V.str (Str.ofString t)
  | [], vs, ts, r, h => by
    cases h
    exact r
  | .str s :: xs, vs, ts, r, h => by
    obtain ⟨u, us, rfl, r1, r2⟩ := r
    obtain ⟨ts', h1, rfl⟩ := Option.map_eq_some_iff.mp h
    rw [List.map_cons, ← strs_vals r2 h1, show u = _ from r1]
  | .non :: _, _, _, _, h => by cases h
  | .bl _ :: _, _, _, _, h => by cases h
  | .int _ :: _, _, _, _, h => by cases h
  | .tup _ :: _, _, _, _, h => by cases h
  | .lst _ :: _, _, _, _, h => by cases h
  | .cell _ :: _, _, _, _, h => by cases h
  | .txt _ :: _, _, _, _, h => by cases h
  | .ins _ _ _ :: _, _, _, _, h => by cases h
theorem ints_vals {e : En} {H : Hp} : ∀ {xs : List A} {vs : List V} {ts : List Int}, Reps K e H xs vs → intsOf xs = some ts → vs = ts.map V.int
  | [], vs, ts, r, h => by
    cases h
    exact r
  | .int s :: xs, vs, ts, r, h => by
    obtain ⟨u, us, rfl, r1, r2⟩ := r
    obtain ⟨ts', h1, rfl⟩ := Option.map_eq_some_iff.mp h
    rw [List.map_cons, ← ints_vals r2 h1, show u = _ from r1]
  | .non :: _, _, _, _, h => by cases h
  | .bl _ :: _, _, _, _, h => by cases h
  | .str _ :: _, _, _, _, h => by cases h
  | .tup _ :: _, _, _, _, h => by cases h
  | .lst _ :: _, _, _, _, h => by cases h
  | .cell _ :: _, _, _, _, h => by cases h
  | .txt _ :: _, _, _, _, h => by cases h
  | .ins _ _ _ :: _, _, _, _, h => by cases h
theorem bls_vals {e : En} {H : Hp} : ∀ {xs : List A} {vs : List V} {ts : List Bool}, Reps K e H xs vs → blsOf xs = some ts → vs = ts.map V.bl
  | [], vs, ts, r, h => by
    cases h
    exact r
  | .bl s :: xs, vs, ts, r, h => by
    obtain ⟨u, us, rfl, r1, r2⟩ := r
    obtain ⟨ts', h1, rfl⟩ := Option.map_eq_some_iff.mp h
    rw [List.map_cons, ← bls_vals r2 h1, show u = _ from r1]
  | .non :: _, _, _, _, h => by cases h
  | .int _ :: _, _, _, _, h => by cases h
  | .str _ :: _, _, _, _, h => by cases h
  | .tup _ :: _, _, _, _, h => by cases h
  | .lst _ :: _, _, _, _, h => by cases h
  | .cell _ :: _, _, _, _, h => by cases h
  | .txt _ :: _, _, _, _, h => by cases h
  | .ins _ _ _ :: _, _, _, _, h => by cases h
theorem inV_strs (s : String) : ∀ ts : List String, inV (.str (Str.ofString s)) (ts.map fun t => V.str (Str.ofString t)) = decide (s ∈ ts)
  | [] => rfl
  | t :: ts => by
    have h := inV_strs s ts
    unfold inV at h ⊢
    rw [List.map_cons, List.any_cons, h]
    show ((Str.ofString t == Str.ofString s) || decide (s ∈ ts)) = decide (s ∈ t :: ts)
    rw [Bool.beq_eq_decide_eq, ofStr_dec]
    by_cases e : t = s
    · subst e
      simp
    · have e2 : ¬ s = t := fun z => e z.symm
      simp [e, e2]
theorem inV_ints (s : Int) : ∀ ts : List Int, inV (.int s) (ts.map V.int) = decide (s ∈ ts)
  | [] => rfl
  | t :: ts => by
    have h := inV_ints s ts
    unfold inV at h ⊢
    rw [List.map_cons, List.any_cons, h]
    show ((t == s) || decide (s ∈ ts)) = decide (s ∈ t :: ts)
    rw [Bool.beq_eq_decide_eq]
    by_cases e : t = s
    · subst e
      simp
    · have e2 : ¬ s = t := fun z => e z.symm
      simp [e, e2]
theorem in_core {e : En} {H : Hp} {x y : V} {a b : A} {z : A} (ra : Rep K e H a x) (rb : Rep K e H b y) (h : fIn a b = some z) : ∃ p vs c, y = .ref p ∧ SqT K H p vs ∧ flatV x = true ∧ vs.all flatV = true ∧ inV x vs = c ∧ z = .bl c := by
  unfold fIn at h
  split at h
  · obtain ⟨ts, h1, rfl⟩ := Option.map_eq_some_iff.mp h
    obtain ⟨p, vs, rfl, h2, h3⟩ := rb.tupSq
    cases (show x = _ from ra)
    have e1 := strs_vals h3 h1
    subst e1
    exact ⟨p, _, _, rfl, h2, rfl, by rw [List.all_map]; exact List.all_eq_true.mpr fun _ _ => rfl, inV_strs _ _, rfl⟩
  · obtain ⟨ts, h1, rfl⟩ := Option.map_eq_some_iff.mp h
    obtain ⟨p, vs, rfl, h2, h3⟩ := rb.tupSq
    cases (show x = _ from ra)
    have e1 := ints_vals h3 h1
    subst e1
    exact ⟨p, _, _, rfl, h2, rfl, by rw [List.all_map]; exact List.all_eq_true.mpr fun _ _ => rfl, inV_ints _ _, rfl⟩
  · cases h
theorem rr_in : RdR K (rIn K false) fIn := by
  intro e H w x y a b z o ra rb h Q q
  obtain ⟨p, vs, c, rfl, h1, h2, h3, rfl, rfl⟩ := in_core ra rb h
  exact ⟨p, vs, rfl, .inr h1, h2, h3, q.here o rfl⟩
theorem rr_notIn : RdR K (rIn K true) fNotIn := by
  intro e H w x y a b z o ra rb h Q q
  obtain ⟨z1, h1, h2⟩ := Option.bind_eq_some_iff.mp h
  obtain ⟨p, vs, c, rfl, h3, h4, h5, rfl, rfl⟩ := in_core ra rb h1
  cases h2
  exact ⟨p, vs, rfl, .inr h3, h4, h5, q.here o rfl⟩

/-! ### slices -/
def RdO (K : PySem.W.Frag) (t : TO) (g : GO) : Prop := ∀ e σ ss H w b w', Ok K e H w → SR K e H ss σ → g ss w = some (b, w') → ∀ Q : Option Int → Hp → Prop, (∀ H', Xt e H H' → Ok K e H' w' → Q b H') → t σ H Q
theorem rd_oNone : RdO K tNoPart xONone := by
  intro e σ ss H w z w' o s h Q q
  cases h
  exact q H Xt.refl o
theorem rd_oSome {ta : TE} {ga : GE} (ha : RdE K ta ga) : RdO K (tPart ta) (xOSome ga) := by
  intro e σ ss H w z w' o s h Q q
  unfold xOSome at h
  obtain ⟨⟨x, w1⟩, h1, h⟩ := Option.bind_eq_some_iff.mp h
  refine ha e σ ss H w x w1 o s h1 _ fun v1 H1 x1 o1 r1 => ?_
  cases x with
  | int i =>
    simp only [Option.some.injEq, Prod.mk.injEq] at h
    obtain ⟨rfl, rfl⟩ := h
    exact ⟨i, r1, q H1 x1 o1⟩
  | _ => cases h
theorem plc_eq (n d : Nat) (o : Option Int) : plc n d o = HT.sIx n d o := by
  cases o <;> rfl
theorem cut_eq {e : En} {H : Hp} {xs : List A} {vs : List V} (r : Reps K e H xs vs) (lo hi : Option Int) : Reps K e H (cut xs lo hi) (cutV vs lo hi) := by
  have hl := r.length
  unfold cut
  rw [plc_eq, plc_eq, hl]
  exact (r.drop _).take _
theorem cutV_whole {vs : List V} {lo hi : Option Int} (h : HT.sIx vs.length 0 lo = 0 ∧ HT.sIx vs.length vs.length hi = vs.length) : cutV vs lo hi = vs := by
  unfold cutV
  rw [h.1, h.2, List.drop_zero, Nat.sub_zero, List.take_length]
theorem rd_sl {ta : TE} {tl th : TO} {ga : GE} {gl gh : GO} (ha : RdE K ta ga) (hl : RdO K tl gl) (hh : RdO K th gh) : RdE K (tSl (rSlA K) ta tl th) (xSl ga gl gh) := by
  intro e σ ss H w z w' o s h Q q
  unfold xSl at h
  obtain ⟨⟨x, w1⟩, h1, h⟩ := Option.bind_eq_some_iff.mp h
  obtain ⟨⟨lo, w2⟩, h2, h⟩ := Option.bind_eq_some_iff.mp h
  obtain ⟨⟨hi, w3⟩, h3, h⟩ := Option.bind_eq_some_iff.mp h
  refine ha e σ ss H w x w1 o s h1 _ fun v1 H1 x1 o1 r1 => ?_
  refine hl e σ ss H1 w1 lo w2 o1 (o.sr x1 s) h2 _ fun H2 x2 o2 => ?_
  refine hh e σ ss H2 w2 hi w3 o2 (o.sr (x1.trans x2) s) h3 _ fun H3 x3 o3 => ?_
  cases x with
  | tup xs =>
    simp only [Option.some.injEq, Prod.mk.injEq] at h
    obtain ⟨rfl, rfl⟩ := h
    have r3 : Rep K e H3 (.tup xs) v1 := o1.rep (x2.trans x3) r1
    obtain ⟨p, vs, rfl, h4, h5⟩ := id r3.tupSq
    refine ⟨p, vs, rfl, h4, fun hw => ?_, fun _ t ht => ?_⟩
    · have h6 := cut_eq h5 lo hi
      rw [cutV_whole hw] at h6
      refine q _ H3 ((x1.trans x2).trans x3) o3 ?_
      obtain ⟨p', vs', e1, h7, h8⟩ := r3
      have e2 : p' = p := by
        injection e1 with e1
        exact e1.symm
      subst e2
      -- the whole of it: the same list
      have hc : cut xs lo hi = xs := by
        have hl := h5.length
        unfold cut
        rw [plc_eq, plc_eq, hl, hw.1, hw.2, List.drop_zero, Nat.sub_zero, ← hl, List.take_length]
      rw [hc]
      exact ⟨p', vs', rfl, h7, h8⟩
    · exact Post.tup (fun v H4 x4 o4 r4 => q v H4 (((x1.trans x2).trans x3).trans x4) o4 r4) o3 (cut_eq h5 lo hi) ht
  | _ => cases h

/-! ### built-ins -/
theorem rep_ty {e : En} {H : Hp} {T : String} {a : A} {v : V} {b : Bool} (r : Rep K e H a v) (h : isTy T a = some b) (hT : T = "int" ∨ T = "bool" ∨ T = "str" ∨ T = "tuple") : ∃ t : String, TyX K H v (.type t) ∧ kitB t T = some b := by
  cases a with
  | non =>
    cases h
    rw [show v = _ from r]
    refine ⟨"NoneType", .base .non, ?_⟩
    rcases hT with rfl | rfl | rfl | rfl <;> decide +kernel
  | bl x =>
    cases h
    rw [show v = _ from r]
    refine ⟨"bool", .base (.bl x), ?_⟩
    rcases hT with rfl | rfl | rfl | rfl <;> decide +kernel
  | int x =>
    cases h
    rw [show v = _ from r]
    refine ⟨"int", .base (.int x), ?_⟩
    rcases hT with rfl | rfl | rfl | rfl <;> decide +kernel
  | str x =>
    cases h
    rw [show v = _ from r]
    refine ⟨"str", .base (.str _), ?_⟩
    rcases hT with rfl | rfl | rfl | rfl <;> decide +kernel
  | tup xs =>
    cases h
    obtain ⟨p, vs, rfl, h1, _⟩ := r
    refine ⟨"tuple", ?_, by rcases hT with rfl | rfl | rfl | rfl <;> decide +kernel⟩
    rcases h1 with ⟨_, h1 | ⟨ob, h1⟩⟩ | h1
    · exact .base (.tup h1)
    · exact .fTuple h1
    · rcases h1 with h1 | ⟨ob, its, n, h2, h3, _⟩
      · rcases h1 with h1 | ⟨_, h1⟩ <;> cases h1
      · exact .kTuple h2 h3
  | lst xs =>
    cases h
    obtain ⟨p, vs, rfl, ⟨_, h1⟩, _⟩ := r
    exact ⟨"list", .base (.lst h1), by rcases hT with rfl | rfl | rfl | rfl <;> decide +kernel⟩
  | _ => cases h
theorem rd_isi {T : String} {ta : TE} {ga : GE} (hT : T = "int" ∨ T = "bool" ∨ T = "str" ∨ T = "tuple") (ha : RdE K ta ga) : RdE K (tCB (rIsi K) (tCons ta (tCons (tC (.ty T)) tNil))) (xUn (fIsi T) ga) := by
  intro e σ ss H w z w' o s h Q q
  unfold xUn at h
  obtain ⟨⟨x, w1⟩, h1, h⟩ := Option.bind_eq_some_iff.mp h
  obtain ⟨z', h3, h⟩ := Option.map_eq_some_iff.mp h
  simp only [Prod.mk.injEq] at h
  obtain ⟨rfl, rfl⟩ := h
  obtain ⟨b, h4, rfl⟩ := Option.map_eq_some_iff.mp h3
  refine ha e σ ss H w x w1 o s h1 _ fun v1 H1 x1 o1 r1 => ?_
  obtain ⟨t, ty, k⟩ := rep_ty r1 h4 hT
  exact ⟨v1, .ty T, .type t, .type T, b, rfl, .ty T, ty, kit_ty k, q _ H1 x1 o1 rfl⟩
theorem reps1 {e : En} {H : Hp} {a : A} {vs : List V} (r : Reps K e H [a] vs) : ∃ v, vs = [v] ∧ Rep K e H a v := by
  obtain ⟨u, us, rfl, h1, h2⟩ := r
  cases (show us = [] from h2)
  exact ⟨u, rfl, h1⟩
theorem reps2 {e : En} {H : Hp} {a b : A} {vs : List V} (r : Reps K e H [a, b] vs) : ∃ v u, vs = [v, u] ∧ Rep K e H a v ∧ Rep K e H b u := by
  obtain ⟨v, us, rfl, h1, h2⟩ := r
  obtain ⟨u, rfl, h3⟩ := reps1 h2
  exact ⟨v, u, rfl, h1, h3⟩
def rLenX (K : PySem.W.Frag) : List V → Hp → VK → Prop := fun xs H Q => ∃ p ys, xs = [.ref p] ∧ (SqL K H p ys ∨ SqT K H p ys) ∧ Q (.int ys.length) H
def rTupleX (K : PySem.W.Frag) : List V → Hp → VK → Prop := fun xs H Q => ∃ p ys, xs = [.ref p] ∧ ((SqL K H p ys ∧ ∀ l, H l = none → Q (.ref l) (upd H l (.tup ys))) ∨ (SqT K H p ys ∧ Q (.ref p) H))
def rIntX : List V → Hp → VK → Prop := fun xs H Q => (∃ i, xs = [.int i] ∧ Q (.int i) H) ∨ ∃ k, xs = [.bl k] ∧ Q (.int (if k then 1 else 0)) H
def rAbsX : List V → Hp → VK → Prop := fun xs H Q => ∃ i, xs = [.int i] ∧ Q (.int (if i < 0 then -i else i)) H
def rMaxX : List V → Hp → VK → Prop := fun xs H Q => ∃ i j, xs = [.int i, .int j] ∧ Q (.int (if j > i then j else i)) H
def rMinX : List V → Hp → VK → Prop := fun xs H Q => ∃ i j, xs = [.int i, .int j] ∧ Q (.int (if j < i then j else i)) H
def rIsqrt : List V → Hp → VK → Prop := fun vs H Q => ∃ a : Int, vs = [.int a] ∧ 0 ≤ a ∧ a.natAbs.log2 < 13000 ∧ Q (.int ((Float64.isqrt a.toNat : Nat) : Int)) H
theorem cr_lenX {X : Cx} : CallR X (.builtin "len") (rLenX X.K) := call_len_seq
theorem cr_tupleX {X : Cx} : CallR X (.type "tuple") (rTupleX X.K) := call_tuple_of
theorem cr_intX {X : Cx} : CallR X (.type "int") rIntX := call_int1
theorem cr_absX {X : Cx} : CallR X (.builtin "abs") rAbsX := call_abs
theorem cr_maxX {X : Cx} (hc : X.calm = true) : CallR X (.builtin "max") rMaxX := call_max2 hc
theorem cr_minX {X : Cx} (hc : X.calm = true) : CallR X (.builtin "min") rMinX := call_min2 hc
theorem cr_isqrt {X : Cx} : CallR X (.builtin "math.isqrt") rIsqrt := by
  intro pins s σ H vs us Q I r h
  obtain ⟨a, rfl, h0, h1, q⟩ := h
  obtain ⟨u, rfl, t, rfl⟩ := vals1 r
  have e : a.toNat = a.natAbs := by omega
  refine call_function_meets PySem.W.MGF.kind_isqrt PySem.W.MGF.plain_isqrt PySem.W.MGF.entry_isqrt (PySem.W.MGF.args_isqrt _) (PySem.W.mg_run_isqrt a t (by omega) (by rw [e]; omega) (by rw [e]; omega)).meets ?_
  exact ⟨.int _, H, I.tok _, ⟨_, rfl⟩, q⟩
theorem rb_len : RdB K (rLenX K) bLen := by
  intro e H w vs as z o r h Q q
  unfold bLen at h
  split at h
  · cases h
    obtain ⟨v, rfl, r1⟩ := reps1 r
    obtain ⟨p, us, rfl, h1, h2⟩ := r1.tupSq
    refine ⟨p, us, rfl, .inr h1, ?_⟩
    rw [← h2.length]
    exact q.here o rfl
  · cases h
    obtain ⟨v, rfl, r1⟩ := reps1 r
    obtain ⟨p, us, rfl, h1, h2⟩ := r1.lstSq
    refine ⟨p, us, rfl, .inl h1, ?_⟩
    rw [← h2.length]
    exact q.here o rfl
  · cases h
theorem rb_all : RdB K (rAll K) bAll := by
  intro e H w vs as z o r h Q q
  unfold bAll at h
  split at h
  · obtain ⟨bs, h1, rfl⟩ := Option.map_eq_some_iff.mp h
    obtain ⟨v, rfl, r1⟩ := reps1 r
    obtain ⟨p, us, rfl, h2, h3⟩ := r1.lstSq
    have e1 := bls_vals h3 h1
    subst e1
    exact ⟨p, bs, rfl, h2, q.here o rfl⟩
  · cases h
theorem rb_tuple : RdB K (rTupleX K) bTuple := by
  intro e H w vs as z o r h Q q
  unfold bTuple at h
  split at h
  · cases h
    obtain ⟨v, rfl, r1⟩ := reps1 r
    obtain ⟨p, us, rfl, h1, h2⟩ := r1.lstSq
    exact ⟨p, us, rfl, .inl ⟨h1, fun l hl => q.tup o h2 hl⟩⟩
  · cases h
    obtain ⟨v, rfl, r1⟩ := reps1 r
    obtain ⟨p, us, rfl, h1, h2⟩ := r1.tupSq
    exact ⟨p, us, rfl, .inr ⟨h1, q.here o r1⟩⟩
  · cases h
theorem rb_int : RdB K rIntX bInt := by
  intro e H w vs as z o r h Q q
  unfold bInt at h
  split at h
  · cases h
    obtain ⟨v, rfl, r1⟩ := reps1 r
    cases (show v = _ from r1)
    exact .inl ⟨_, rfl, q.here o rfl⟩
  · cases h
    obtain ⟨v, rfl, r1⟩ := reps1 r
    cases (show v = _ from r1)
    exact .inr ⟨_, rfl, q.here o rfl⟩
  · cases h
theorem rb_abs : RdB K rAbsX bAbs := by
  intro e H w vs as z o r h Q q
  unfold bAbs at h
  split at h
  · cases h
    obtain ⟨v, rfl, r1⟩ := reps1 r
    cases (show v = _ from r1)
    exact ⟨_, rfl, q.here o rfl⟩
  · cases h
theorem rb_max : RdB K rMaxX bMax := by
  intro e H w vs as z o r h Q q
  unfold bMax at h
  split at h
  · cases h
    obtain ⟨v, u, rfl, r1, r2⟩ := reps2 r
    cases (show v = _ from r1)
    cases (show u = _ from r2)
    exact ⟨_, _, rfl, q.here o rfl⟩
  · cases h
theorem rb_min : RdB K rMinX bMin := by
  intro e H w vs as z o r h Q q
  unfold bMin at h
  split at h
  · cases h
    obtain ⟨v, u, rfl, r1, r2⟩ := reps2 r
    cases (show v = _ from r1)
    cases (show u = _ from r2)
    exact ⟨_, _, rfl, q.here o rfl⟩
  · cases h
theorem rb_gcd : RdB K rGcd bGcd := by
  intro e H w vs as z o r h Q q
  unfold bGcd at h
  split at h
  · cases h
    obtain ⟨v, u, rfl, r1, r2⟩ := reps2 r
    cases (show v = _ from r1)
    cases (show u = _ from r2)
    exact ⟨_, _, rfl, q.here o rfl⟩
  · cases h
theorem rb_isqrt : RdB K rIsqrt bIsqrt := by
  intro e H w vs as z o r h Q q
  unfold bIsqrt at h
  split at h
  · split at h
    · rename_i hc
      cases h
      obtain ⟨v, rfl, r1⟩ := reps1 r
      cases (show v = _ from r1)
      obtain ⟨h1, h2⟩ := of_decide_eq_true hc
      refine ⟨_, rfl, h1, h2, ?_⟩
      have e1 := Float64.isqrt_spec ‹Int›.toNat
      rw [isq_one e1.1 e1.2] at q
      exact q.here o rfl
    · cases h
  · cases h
theorem rd_bits {ta : TE} {ga : GE} (ha : RdE K ta ga) : RdE K (tBits ta) (xUn fBits ga) := by
  intro e σ ss H w z w' o s h Q q
  unfold xUn at h
  obtain ⟨⟨x, w1⟩, h1, h⟩ := Option.bind_eq_some_iff.mp h
  obtain ⟨z', h3, h⟩ := Option.map_eq_some_iff.mp h
  simp only [Prod.mk.injEq] at h
  obtain ⟨rfl, rfl⟩ := h
  refine ha e σ ss H w x w1 o s h1 _ fun v1 H1 x1 o1 r1 => ?_
  unfold fBits at h3
  split at h3
  · rename_i i he
    cases h3
    cases he
    refine ⟨i, r1, ?_⟩
    refine q _ H1 x1 o1 ?_
    show _ = V.int _
    congr 1
    congr 1
    unfold Builtin.Int.intBits
    by_cases hi : i = 0
    · rw [if_pos hi, if_pos (by rw [hi]; rfl)]
    · rw [if_neg hi, if_neg (by simpa using hi)]
  · cases h3
end
end Sp
/-! LAY 3: targets, what is walked, comprehensions, statements. -/
namespace Sp
open PySem PySem.Spec PyProof.Rows L2

section
variable {K : PySem.W.Frag} {e : En} {H H' : Hp} {w w' : W}
/-! ### more that is not to be read -/
def More (e : En) (H : Hp) (M2 : Addr → Prop) : Prop := ∀ p, M2 p → e.M p ∨ H p = none
mutual
theorem Rep.more {M2 : Addr → Prop} (m : More e H M2) : ∀ (a : A) (v : V), Rep K e H a v → Rep K ⟨e.ws, M2⟩ H a v
  | .non, _, h => h
  | .bl _, _, h => h
  | .int _, _, h => h
  | .str _, _, h => h
  | .txt _, _, h => h
  | .cell _, _, h => h
  | .tup xs, v, h => by
    obtain ⟨p, vs, e1, h1, h2⟩ := h
    refine ⟨p, vs, e1, ?_, Reps.more m xs vs h2⟩
    rcases h1 with ⟨n, r⟩ | r
    · refine .inl ⟨fun z => ?_, r⟩
      rcases m p z with q | q
      · exact n q
      · rcases r with r | ⟨_, r⟩ <;> (rw [q] at r; cases r)
    · exact .inr r
  | .lst xs, v, h => by
    obtain ⟨p, vs, e1, ⟨n, r⟩, h2⟩ := h
    refine ⟨p, vs, e1, ⟨fun z => ?_, r⟩, Reps.more m xs vs h2⟩
    rcases m p z with q | q
    · exact n q
    · rw [q] at r
      cases r
  | .ins lo up le, v, h => by
    obtain ⟨p, dx, v1, v2, v3, e1, ⟨n, r⟩, h1, h2, h3⟩ := h
    refine ⟨p, dx, v1, v2, v3, e1, ⟨fun z => ?_, r⟩, Rep.more m lo v1 h1, Rep.more m up v2 h2, Rep.more m le v3 h3⟩
    rcases m p z with q | q
    · exact n q
    · rw [q] at r
      cases r
theorem Reps.more {M2 : Addr → Prop} (m : More e H M2) : ∀ (xs : List A) (vs : List V), Reps K e H xs vs → Reps K ⟨e.ws, M2⟩ H xs vs
  | [], _, h => h
  | a :: xs, vs, h => by
    obtain ⟨u, us, e1, h1, h2⟩ := h
    exact ⟨u, us, e1, Rep.more m a u h1, Reps.more m xs us h2⟩
end
mutual
/-- less that is not to be read, and what may be read stands -/
theorem Rep.less {M2 : Addr → Prop} (m : ∀ p, M2 p → e.M p) (x : ∀ a o, ¬ e.M a → H a = some o → H' a = some o) : ∀ (a : A) (v : V), Rep K e H a v → Rep K ⟨e.ws, M2⟩ H' a v
  | .non, _, h => h
  | .bl _, _, h => h
  | .int _, _, h => h
  | .str _, _, h => h
  | .txt _, _, h => h
  | .cell _, _, h => h
  | .tup xs, v, h => by
    obtain ⟨p, vs, e1, h1, h2⟩ := h
    refine ⟨p, vs, e1, ?_, Reps.less m x xs vs h2⟩
    rcases h1 with ⟨n, r⟩ | r
    · refine .inl ⟨fun z => n (m p z), ?_⟩
      rcases r with r | ⟨ob, r⟩
      · exact .inl (x _ _ n r)
      · exact .inr ⟨ob, x _ _ n r⟩
    · exact .inr r
  | .lst xs, v, h => by
    obtain ⟨p, vs, e1, ⟨n, r⟩, h2⟩ := h
    exact ⟨p, vs, e1, ⟨fun z => n (m p z), x _ _ n r⟩, Reps.less m x xs vs h2⟩
  | .ins lo up le, v, h => by
    obtain ⟨p, dx, v1, v2, v3, e1, ⟨n, r⟩, h1, h2, h3⟩ := h
    exact ⟨p, dx, v1, v2, v3, e1, ⟨fun z => n (m p z), x _ _ n r⟩, Rep.less m x lo v1 h1, Rep.less m x up v2 h2, Rep.less m x le v3 h3⟩
theorem Reps.less {M2 : Addr → Prop} (m : ∀ p, M2 p → e.M p) (x : ∀ a o, ¬ e.M a → H a = some o → H' a = some o) : ∀ (xs : List A) (vs : List V), Reps K e H xs vs → Reps K ⟨e.ws, M2⟩ H' xs vs
  | [], _, h => h
  | a :: xs, vs, h => by
    obtain ⟨u, us, e1, h1, h2⟩ := h
    exact ⟨u, us, e1, Rep.less m x a u h1, Reps.less m x xs us h2⟩
end
/-- a new list that is being made stands apart -/
def withM (e : En) (D : Addr) : En := ⟨e.ws, fun p => e.M p ∨ p = D⟩
theorem Ok.with (o : Ok K e H w) {D : Addr} {u : HO} (hD : H D = none) : Ok K (withM e D) (upd H D u) w := by
  have m : More e H (withM e D).M := fun p q => by
    rcases q with q | q
    · exact .inl q
    · exact .inr (by rw [q]; exact hD)
  have o2 := o.new (u := u) hD
  refine ⟨fun p h => .inl (o.sub p h), fun p h => ?_, o.len, o.nod, fun n p xs h1 h2 => ?_⟩
  · rcases h with h | h
    · exact o2.live p h
    · rw [h, upd_same]
      exact fun z => nomatch z
  · obtain ⟨vs, h3, h4⟩ := o.cel n p xs h1 h2
    refine ⟨vs, ?_, ?_⟩
    · rw [upd_ne (ne_of_none h3 hD)]
      exact h3
    · have h5 := Reps.more m xs vs h4
      exact Reps.mono (e := ⟨e.ws, (withM e D).M⟩) (fun p h => .inl (o.sub p h)) (Xt.new hD) xs vs h5
theorem SR.with {ss : SS} {σ : L2.St} (o : Ok K e H w) (s : SR K e H ss σ) {D : Addr} {u : HO} (hD : H D = none) : SR K (withM e D) (upd H D u) ss σ := by
  have m : More e H (withM e D).M := fun p q => by
    rcases q with q | q
    · exact .inl q
    · exact .inr (by rw [q]; exact hD)
  refine ⟨s.1, fun i a q => ?_⟩
  obtain ⟨v, h1, h2⟩ := s.2 i a q
  exact ⟨v, h1, Rep.mono (e := ⟨e.ws, (withM e D).M⟩) (fun p h => .inl (o.sub p h)) (Xt.new hD) a v (Rep.more m a v h2)⟩

/-! ### targets -/
theorem wipe_get (σ : L2.St) (j : Nat) : ∀ vs : List Nat, (wipe σ vs)[j]? = if j ∈ vs ∧ j < σ.length then some none else σ[j]?
  | [] => by simp [wipe]
  | v :: vs => by
    unfold wipe
    rw [List.getElem?_set]
    have ih := wipe_get σ j vs
    have hl := wipe_length σ vs
    by_cases h : v = j
    · subst h
      by_cases hl2 : v < σ.length
      · simp [hl, hl2]
      · rw [if_pos rfl, if_neg (by rw [hl]; exact hl2), if_neg (fun z => hl2 z.2)]
        exact (List.getElem?_eq_none (Nat.not_lt.mp hl2)).symm
    · rw [if_neg h, ih]
      have e1 : j ∈ v :: vs ↔ j ∈ vs := by
        rw [List.mem_cons]
        constructor
        · rintro (z | z)
          · exact absurd z.symm h
          · exact z
        · exact .inr
      simp only [e1]
/-- the slots that a target sets -/
def Only (own : List Nat) (σ σ' : L2.St) : Prop := σ'.length = σ.length ∧ ∀ j, j ∉ own → σ'[j]? = σ[j]?
theorem Only.wipe {own vs : List Nat} {σ σ' : L2.St} (h : Only own σ σ') (hv : ∀ j ∈ own, j ∈ vs) : wipe σ' vs = wipe σ vs := by
  apply List.ext_getElem?
  intro j
  rw [wipe_get, wipe_get, h.1]
  by_cases hj : j ∈ vs ∧ j < σ.length
  · rw [if_pos hj, if_pos hj]
  · rw [if_neg hj, if_neg hj]
    by_cases ho : j ∈ own
    · have hl : ¬ j < σ.length := fun z => hj ⟨hv j ho, z⟩
      rw [List.getElem?_eq_none (by rw [h.1]; omega), List.getElem?_eq_none (by omega)]
    · exact h.2 j ho
theorem wipe_wipe (σ : L2.St) (vs : List Nat) : wipe (wipe σ vs) vs = wipe σ vs := by
  apply List.ext_getElem?
  intro j
  rw [wipe_get, wipe_length, wipe_get]
  by_cases hj : j ∈ vs ∧ j < σ.length
  · rw [if_pos hj, if_pos hj]
  · rw [if_neg hj]
def RdG (K : PySem.W.Frag) (own : List Nat) (t : TG) (g : GG) : Prop := ∀ e σ ss H w a v ss', Ok K e H w → SR K e H ss σ → Rep K e H a v → g a ss = some ss' → ∀ Q, (∀ σ', SR K e H ss' σ' → Only own σ σ' → Q σ' H) → t v σ H Q
structure RdGs (K : PySem.W.Frag) (own : List Nat) (n : Nat) (t : TGs) (g : GGs) : Prop where
  len : ∀ as ss r, g as ss = some r → as.length = n
  rd : ∀ e σ ss H w as vs ss', Ok K e H w → SR K e H ss σ → Reps K e H as vs → g as ss = some ss' → ∀ Q, (∀ σ', SR K e H ss' σ' → Only own σ σ' → Q σ' H) → t vs σ H Q
theorem SR.set {ss : SS} {σ : L2.St} {i : Nat} {a : A} {v : V} (s : SR K e H ss σ) (r : Rep K e H a v) : SR K e H (ss.set i (some a)) (σ.set i (some v)) := by
  refine ⟨by rw [List.length_set, List.length_set, s.1], fun j b h => ?_⟩
  rw [List.getElem?_set] at h
  by_cases hij : i = j
  · subst hij
    rw [if_pos rfl] at h
    by_cases hl : i < ss.length
    · rw [if_pos hl] at h
      cases h
      exact ⟨v, by rw [List.getElem?_set_self (by rw [← s.1]; exact hl)], r⟩
    · rw [if_neg hl] at h
      cases h
  · rw [if_neg hij] at h
    obtain ⟨u, h1, h2⟩ := s.2 j b h
    exact ⟨u, by rw [List.getElem?_set_ne hij]; exact h1, h2⟩
theorem rg_name {i : Nat} : RdG K [i] (L2.gName i) (xName i) := by
  intro e σ ss H w a v ss' o s r h Q q
  cases h
  refine q _ (s.set r) ⟨List.length_set, fun j hj => ?_⟩
  rw [List.getElem?_set_ne (fun z => hj (by rw [z]; exact List.mem_singleton.mpr rfl))]
theorem rg_nil : RdGs K [] 0 gNil xNilG := by
  refine ⟨fun as ss r h => ?_, fun e σ ss H w as vs ss' o s r h Q q => ?_⟩
  · unfold xNilG at h
    split at h
    · rfl
    · cases h
  · unfold xNilG at h
    split at h
    · cases h
      exact ⟨r, q σ s ⟨rfl, fun _ _ => rfl⟩⟩
    · cases h
theorem rg_cons {own own' : List Nat} {n : Nat} {t : TG} {u : TGs} {g : GG} {gs : GGs} (h1 : RdG K own t g) (h2 : RdGs K own' n u gs) : RdGs K (own ++ own') (n + 1) (gCons t u) (xConsG g gs) := by
  refine ⟨fun as ss r h => ?_, fun e σ ss H w as vs ss' o s r h Q q => ?_⟩
  · unfold xConsG at h
    split at h
    · obtain ⟨ss1, h3, h4⟩ := Option.bind_eq_some_iff.mp h
      rw [List.length_cons, h2.len _ _ _ h4]
    · cases h
  · unfold xConsG at h
    split at h
    · rename_i x xs
      obtain ⟨ss1, h3, h4⟩ := Option.bind_eq_some_iff.mp h
      obtain ⟨v, us, rfl, r1, r2⟩ := r
      refine ⟨v, us, rfl, h1 e σ ss H w x v ss1 o s r1 h3 _ fun σ1 s1 n1 => ?_⟩
      refine h2.rd e σ1 ss1 H w xs us ss' o s1 r2 h4 Q fun σ2 s2 n2 => q σ2 s2 ⟨n2.1.trans n1.1, fun j hj => ?_⟩
      rw [n2.2 j (fun z => hj (List.mem_append_right _ z)), n1.2 j (fun z => hj (List.mem_append_left _ z))]
    · cases h
theorem rg_tup {own : List Nat} {n : Nat} {t : TGs} {g : GGs} (h : RdGs K own n t g) : RdG K own (L2.gTup K n t) (xTupG g) := by
  intro e σ ss H w a v ss' o s r hg Q q
  unfold xTupG at hg
  split at hg
  · obtain ⟨p, vs, rfl, h1, h2⟩ := r.tupSq
    exact ⟨p, vs, rfl, h1, by rw [← h2.length]; exact h.len _ _ _ hg, h.rd e σ ss H w _ vs ss' o s h2 hg Q q⟩
  · cases hg
theorem rg_lst {own : List Nat} {n : Nat} {t : TGs} {g : GGs} (h : RdGs K own n t g) : RdG K own (gUnl K n t) (xLstG g) := by
  intro e σ ss H w a v ss' o s r hg Q q
  unfold xLstG at hg
  split at hg
  · obtain ⟨p, vs, rfl, h1, h2⟩ := r.lstSq
    exact ⟨p, vs, rfl, h1, by rw [← h2.length]; exact h.len _ _ _ hg, h.rd e σ ss H w _ vs ss' o s h2 hg Q q⟩
  · cases hg

/-! ### what is walked -/
/-- J gives these values, one a turn, while what stands at H stands -/
def Wk (K : PySem.W.Frag) (e : En) (H : Hp) (as : List A) (J : It) : Prop := ∃ (G : Hp → Prop) (Y : Nat → Hp → V → Hp → Prop), Walk J as.length G Y ∧ (∀ H1, Xt e H H1 → G H1) ∧
  ∀ (M2 : Addr → Prop) (i : Nat) (H1 : Hp) (w1 : W) (x : V) (H2 : Hp), More e H M2 → (∀ p, e.M p → M2 p) → Xt e H H1 → Ok K ⟨e.ws, M2⟩ H1 w1 → i < as.length → Y i H1 x H2 → (∀ a o, H1 a = some o → H2 a = some o) ∧ ∃ a, as[i]? = some a ∧ Rep K ⟨e.ws, M2⟩ H2 a x
def RdI (K : PySem.W.Frag) (wi : TI) (gi : GI) : Prop := ∀ e σ ss H w as w', Ok K e H w → SR K e H ss σ → gi ss w = some (as, w') → ∀ R : It → Hp → Prop, (∀ J H', Xt e H H' → Ok K e H' w' → Wk K e H' as J → R J H') → wi σ H R
theorem wk_items {xs : List A} {vs : List V} (sub : ∀ p ∈ e.ws, e.M p) (r : Reps K e H xs vs) {M2 : Addr → Prop} (m : More e H M2) {H1 : Hp} (sub2 : ∀ p ∈ e.ws, M2 p) (x : Xt e H H1) : Reps K ⟨e.ws, M2⟩ H1 xs vs := Reps.mono (e := ⟨e.ws, M2⟩) sub2 x xs vs (Reps.more m xs vs r)
theorem ri_tup {ta : TE} {ga : GE} (ha : RdE K ta ga) : RdI K (L2.iTup K ta) (yTup ga) := by
  intro e σ ss H w as w' o s h R q
  unfold yTup at h
  obtain ⟨⟨x, w1⟩, h1, h⟩ := Option.bind_eq_some_iff.mp h
  refine ha e σ ss H w x w1 o s h1 _ fun v1 H1 x1 o1 r1 => ?_
  cases x with
  | tup xs =>
    simp only [Option.some.injEq, Prod.mk.injEq] at h
    obtain ⟨rfl, rfl⟩ := h
    obtain ⟨p, vs, rfl, h2, h3⟩ := id r1
    have st : ∀ H2, Xt e H1 H2 → SqT K H2 p vs := fun H2 x2 => by
      rcases h2 with ⟨n, h2⟩ | h2
      · exact .inl (rd_xt x2 (fun z => n (o1.sub p z)) h2)
      · exact h2.sq H2
    refine ⟨p, rfl, ⟨vs, st H1 Xt.refl⟩, q _ H1 x1 o1 ⟨fun H2 => SqT K H2 p vs, YAt vs, ?_, fun H2 x2 => st H2 x2, ?_⟩⟩
    · rw [h3.length]
      exact walk_tup
    · rintro M2 i H2 w2 x H3 m le x2 o2 hi ⟨rfl, hy⟩
      refine ⟨fun _ _ z => z, ?_⟩
      have h4 := wk_items o1.sub h3 m o2.sub x2
      obtain ⟨v, h5, h6⟩ := h4.get (List.getElem?_eq_getElem hi)
      rw [hy] at h5
      cases h5
      exact ⟨_, List.getElem?_eq_getElem hi, h6⟩
  | _ => cases h
theorem ri_lst {ta : TE} {ga : GE} (ha : RdE K ta ga) : RdI K (L2.iList K ta) (yLst ga) := by
  intro e σ ss H w as w' o s h R q
  unfold yLst at h
  obtain ⟨⟨x, w1⟩, h1, h⟩ := Option.bind_eq_some_iff.mp h
  refine ha e σ ss H w x w1 o s h1 _ fun v1 H1 x1 o1 r1 => ?_
  cases x with
  | lst xs =>
    simp only [Option.some.injEq, Prod.mk.injEq] at h
    obtain ⟨rfl, rfl⟩ := h
    obtain ⟨p, vs, rfl, ⟨n, h2⟩, h3⟩ := id r1
    have st : ∀ H2, Xt e H1 H2 → SqL K H2 p vs := fun H2 x2 => SqL.of (x2 _ _ (fun z => n (o1.sub p z)) h2)
    refine ⟨p, rfl, ⟨vs, st H1 Xt.refl⟩, q _ H1 x1 o1 ⟨fun H2 => SqL K H2 p vs, YAt vs, ?_, fun H2 x2 => st H2 x2, ?_⟩⟩
    · rw [h3.length]
      exact walk_list
    · rintro M2 i H2 w2 x H3 m le x2 o2 hi ⟨rfl, hy⟩
      refine ⟨fun _ _ z => z, ?_⟩
      have h4 := wk_items o1.sub h3 m o2.sub x2
      obtain ⟨v, h5, h6⟩ := h4.get (List.getElem?_eq_getElem hi)
      rw [hy] at h5
      cases h5
      exact ⟨_, List.getElem?_eq_getElem hi, h6⟩
  | _ => cases h
theorem nums_length (lo : Int) (n : Nat) : (nums lo n).length = n := by
  unfold nums
  rw [List.length_map, List.length_range]
theorem nums_get (lo : Int) {n i : Nat} (h : i < n) : (nums lo n)[i]? = some (.int (lo + (i : Nat))) := by
  unfold nums
  rw [List.getElem?_map, List.getElem?_range h]
  rfl
theorem wk_range (lo : Int) (n : Nat) : Wk K e H (nums lo n) (Itr lo n) := by
  refine ⟨fun _ => True, YFn fun i => .int (lo + i), ?_, fun _ _ => trivial, ?_⟩
  · rw [nums_length]
    exact walk_range
  · rintro M2 i H2 w2 x H3 m le x2 o2 hi ⟨rfl, rfl⟩
    rw [nums_length] at hi
    exact ⟨fun _ _ z => z, _, nums_get lo hi, rfl⟩
theorem rng_ok {i : Int} (h : rngOk i = true) : -(2 ^ 62) ≤ i ∧ i < 2 ^ 62 := by
  obtain ⟨h1, h2⟩ := sure_iff.mp h
  constructor <;> omega
theorem ri_rng1 {ta : TE} {ga : GE} (ha : RdE K ta ga) : RdI K (L2.iRng1 (tCons ta tNil)) (yRng1 ga) := by
  intro e σ ss H w as w' o s h R q
  unfold yRng1 at h
  obtain ⟨⟨x, w1⟩, h1, h⟩ := Option.bind_eq_some_iff.mp h
  refine ha e σ ss H w x w1 o s h1 _ fun v1 H1 x1 o1 r1 => ?_
  cases x with
  | int j =>
    dsimp only at h
    split at h
    · rename_i hj
      simp only [Option.some.injEq, Prod.mk.injEq] at h
      obtain ⟨rfl, rfl⟩ := h
      obtain ⟨b1, b2⟩ := rng_ok hj
      cases (show v1 = _ from r1)
      exact ⟨j, rfl, b1, b2, q _ H1 x1 o1 (wk_range 0 _)⟩
    · cases h
  | _ => cases h
theorem ri_rng2 {ta tb : TE} {ga gb : GE} (ha : RdE K ta ga) (hb : RdE K tb gb) : RdI K (L2.iRng2 (tCons ta (tCons tb tNil))) (yRng2 ga gb) := by
  intro e σ ss H w as w' o s h R q
  unfold yRng2 at h
  obtain ⟨⟨x, w1⟩, h1, h⟩ := Option.bind_eq_some_iff.mp h
  obtain ⟨⟨y, w2⟩, h2, h⟩ := Option.bind_eq_some_iff.mp h
  refine ha e σ ss H w x w1 o s h1 _ fun v1 H1 x1 o1 r1 => ?_
  refine hb e σ ss H1 w1 y w2 o1 (o.sr x1 s) h2 _ fun v2 H2 x2 o2 r2 => ?_
  dsimp only at h
  split at h
  · split at h
    · rename_i i j _ hc
      simp only [Option.some.injEq, Prod.mk.injEq] at h
      obtain ⟨rfl, rfl⟩ := h
      obtain ⟨c1, c2⟩ := Bool.and_eq_true_iff.mp hc
      obtain ⟨b1, b2⟩ := rng_ok c1
      obtain ⟨b3, b4⟩ := rng_ok c2
      cases (show v1 = _ from r1)
      cases (show v2 = _ from r2)
      exact ⟨i, j, rfl, ⟨b1, b2, b3, b4⟩, q _ H2 (x1.trans x2) o2 (wk_range i _)⟩
    · cases h
  · cases h
theorem pairs_length (xs ys : List A) : (pairs xs ys).length = min xs.length ys.length := by
  unfold pairs
  rw [List.length_map, List.length_zip]
theorem pairs_get {xs ys : List A} {i : Nat} {x y : A} (h1 : xs[i]? = some x) (h2 : ys[i]? = some y) : (pairs xs ys)[i]? = some (.tup [x, y]) := by
  unfold pairs
  rw [List.getElem?_map, show (xs.zip ys)[i]? = some (x, y) from List.getElem?_zip_eq_some.mpr ⟨h1, h2⟩]
  rfl
/-- new pairs -/
theorem wk_pairs {J : It} {n : Nat} {G : Hp → Prop} {xs ys : List A} {f g : Nat → Option V} (wk : Walk J n G (YPair f g)) (hn : n = min xs.length ys.length) (hG : ∀ H1, Xt e H H1 → G H1)
    (hf : ∀ (M2 : Addr → Prop) i H1 w1 x, More e H M2 → Xt e H H1 → Ok K ⟨e.ws, M2⟩ H1 w1 → f i = some x → i < xs.length → ∃ a, xs[i]? = some a ∧ Rep K ⟨e.ws, M2⟩ H1 a x)
    (hg : ∀ (M2 : Addr → Prop) i H1 w1 x, More e H M2 → Xt e H H1 → Ok K ⟨e.ws, M2⟩ H1 w1 → g i = some x → i < ys.length → ∃ a, ys[i]? = some a ∧ Rep K ⟨e.ws, M2⟩ H1 a x) : Wk K e H (pairs xs ys) J := by
  refine ⟨G, YPair f g, ?_, hG, ?_⟩
  · rw [pairs_length, ← hn]
    exact wk
  · rintro M2 i H1 w1 v H2 m le x1 o1 hi ⟨T, x, y, rfl, hT, rfl, fx, gy⟩
    rw [pairs_length] at hi
    obtain ⟨a, h1, h2⟩ := hf M2 i H1 w1 x m x1 o1 fx (by omega)
    obtain ⟨b, h3, h4⟩ := hg M2 i H1 w1 y m x1 o1 gy (by omega)
    refine ⟨fun c u z => by rw [upd_ne (ne_of_none z hT)]; exact z, .tup [a, b], pairs_get h1 h3, ?_⟩
    have xn : Xt ⟨e.ws, M2⟩ H1 (upd H1 T (.tup [x, y])) := Xt.new hT
    exact ⟨T, [x, y], rfl, .inl ⟨o1.fresh hT, .inl upd_same⟩, x, [y], rfl, o1.rep xn h2, y, [], rfl, o1.rep xn h4, rfl⟩
theorem items_get {xs : List A} {vs : List V} (r : Reps K e H xs vs) (sub : ∀ p ∈ e.ws, e.M p) : ∀ (M2 : Addr → Prop) (i : Nat) (H1 : Hp) (w1 : W) (x : V), More e H M2 → Xt e H H1 → Ok K ⟨e.ws, M2⟩ H1 w1 → vs[i]? = some x → i < xs.length → ∃ a, xs[i]? = some a ∧ Rep K ⟨e.ws, M2⟩ H1 a x := fun M2 i H1 w1 x m x1 o1 hx hi => by
  have h4 := wk_items sub r m o1.sub x1
  obtain ⟨v, h5, h6⟩ := h4.get (List.getElem?_eq_getElem hi)
  rw [hx] at h5
  cases h5
  exact ⟨_, List.getElem?_eq_getElem hi, h6⟩
theorem walk_zipT {a b : Addr} {xs ys : List V} {n : Nat} (hn : n = min xs.length ys.length) : Walk (RZ.ItzT K a b) n (fun H => SqT K H a xs ∧ SqT K H b ys) (YPair (fun i => xs[i]?) (fun i => ys[i]?)) := by
  subst hn
  refine ⟨fun i _ hi q => ?_, fun _ q => ⟨xs, ys, q.1, q.2, ?_⟩, fun i H v H' _ q y => ?_⟩
  · exact ⟨xs, ys, xs[i]'(by omega), ys[i]'(by omega), q.1, q.2, List.getElem?_eq_getElem _, List.getElem?_eq_getElem _⟩
  · rcases Nat.le_total xs.length ys.length with z | z
    · exact .inl (by rw [Nat.min_eq_left z]; exact Nat.le_refl _)
    · exact .inr (by rw [Nat.min_eq_right z]; exact Nat.le_refl _)
  · obtain ⟨T, x, z, e1, e2, e3, e4, e5⟩ := y
    exact ⟨T, x, z, e1, e2, e3, e4 xs q.1, e5 ys q.2⟩
theorem ri_zipT {ta tb : TE} {ga gb : GE} (ha : RdE K ta ga) (hb : RdE K tb gb) : RdI K (RZ.iZipA K (tCons ta (tCons tb tNil))) (yZipT ga gb) := by
  intro e σ ss H w as w' o s h R q
  unfold yZipT at h
  obtain ⟨⟨x, w1⟩, h1, h⟩ := Option.bind_eq_some_iff.mp h
  obtain ⟨⟨y, w2⟩, h2, h⟩ := Option.bind_eq_some_iff.mp h
  refine ha e σ ss H w x w1 o s h1 _ fun v1 H1 x1 o1 r1 => ?_
  refine hb e σ ss H1 w1 y w2 o1 (o.sr x1 s) h2 _ fun v2 H2 x2 o2 r2 => ?_
  dsimp only at h
  split at h
  · rename_i xs ys _
    simp only [Option.some.injEq, Prod.mk.injEq] at h
    obtain ⟨rfl, rfl⟩ := h
    obtain ⟨p, vs, rfl, h3, h4⟩ := o1.rep x2 r1
    obtain ⟨p', us, rfl, h5, h6⟩ := r2
    have st : ∀ H3, Xt e H2 H3 → SqT K H3 p vs ∧ SqT K H3 p' us := fun H3 x3 => by
      refine ⟨?_, ?_⟩
      · rcases h3 with ⟨n, h3⟩ | h3
        · exact .inl (rd_xt x3 (fun z => n (o2.sub _ z)) h3)
        · exact h3.sq H3
      · rcases h5 with ⟨n, h5⟩ | h5
        · exact .inl (rd_xt x3 (fun z => n (o2.sub _ z)) h5)
        · exact h5.sq H3
    obtain ⟨q1, q2⟩ := st H2 Xt.refl
    refine ⟨p, p', vs, us, rfl, .inr ⟨q1, q2, q _ H2 (x1.trans x2) o2 ?_⟩⟩
    exact wk_pairs (walk_zipT (xs := vs) (ys := us) rfl) (by rw [h4.length, h6.length]) st (items_get h4 o2.sub) (items_get h6 o2.sub)
  · cases h
theorem ri_zipL {ta tb : TE} {ga gb : GE} (ha : RdE K ta ga) (hb : RdE K tb gb) : RdI K (RZ.iZipA K (tCons ta (tCons tb tNil))) (yZipL ga gb) := by
  intro e σ ss H w as w' o s h R q
  unfold yZipL at h
  obtain ⟨⟨x, w1⟩, h1, h⟩ := Option.bind_eq_some_iff.mp h
  obtain ⟨⟨y, w2⟩, h2, h⟩ := Option.bind_eq_some_iff.mp h
  refine ha e σ ss H w x w1 o s h1 _ fun v1 H1 x1 o1 r1 => ?_
  refine hb e σ ss H1 w1 y w2 o1 (o.sr x1 s) h2 _ fun v2 H2 x2 o2 r2 => ?_
  dsimp only at h
  split at h
  · rename_i xs ys _
    simp only [Option.some.injEq, Prod.mk.injEq] at h
    obtain ⟨rfl, rfl⟩ := h
    obtain ⟨p, vs, rfl, ⟨n, h3⟩, h4⟩ := o1.rep x2 r1
    obtain ⟨p', us, rfl, ⟨n', h5⟩, h6⟩ := r2
    have st : ∀ H3, Xt e H2 H3 → SqL K H3 p vs ∧ SqL K H3 p' us := fun H3 x3 => ⟨SqL.of (x3 _ _ (fun z => n (o2.sub _ z)) h3), SqL.of (x3 _ _ (fun z => n' (o2.sub _ z)) h5)⟩
    obtain ⟨q1, q2⟩ := st H2 Xt.refl
    refine ⟨p, p', vs, us, rfl, .inl ⟨q1, q2, q _ H2 (x1.trans x2) o2 ?_⟩⟩
    exact wk_pairs (walk_zip (xs := vs) (ys := us) rfl) (by rw [h4.length, h6.length]) st (items_get h4 o2.sub) (items_get h6 o2.sub)
  · cases h

/-! ### comprehensions -/
theorem SR.wipe {ss : SS} {σ : L2.St} (s : SR K e H ss σ) (vs : List Nat) : SR K e H (wipeS ss vs) (wipe σ vs) := by
  have hl : ∀ vs : List Nat, (wipeS ss vs).length = ss.length := fun vs => by
    induction vs with
    | nil => rfl
    | cons v vs ih =>
      unfold wipeS
      rw [List.length_set, ih]
  have key : ∀ (vs : List Nat) (i : Nat) (a : A), (wipeS ss vs)[i]? = some (some a) → i ∉ vs ∧ ss[i]? = some (some a) := fun vs => by
    induction vs with
    | nil => exact fun i a h => ⟨List.not_mem_nil, h⟩
    | cons v vs ih =>
      intro i a h
      unfold wipeS at h
      rw [List.getElem?_set] at h
      by_cases hv : v = i
      · rw [if_pos hv] at h
        split at h <;> cases h
      · rw [if_neg hv] at h
        obtain ⟨h1, h2⟩ := ih i a h
        exact ⟨fun z => by
          rcases List.mem_cons.mp z with z | z
          · exact hv z.symm
          · exact h1 z, h2⟩
  refine ⟨by rw [hl, wipe_length, s.1], fun i a h => ?_⟩
  obtain ⟨h1, h2⟩ := key vs i a h
  obtain ⟨v, h3, h4⟩ := s.2 i a h2
  refine ⟨v, ?_, h4⟩
  rw [wipe_get, if_neg (fun z => h1 z.1)]
  exact h3
theorem reps_snoc {xs : List A} {vs : List V} {a : A} {v : V} (h : Reps K e H xs vs) (g : Rep K e H a v) : Reps K e H (xs ++ [a]) (vs ++ [v]) := h.append ⟨v, [], rfl, g, rfl⟩
theorem rd_lc {wi : TI} {gi : GI} {own vs : List Nat} {g : TG} {xg : GG} {tt : TT} {gt : GT} {te : TE} {ge : GE} (hi : RdI K wi gi) (hg : RdG K own g xg) (ho : ∀ j ∈ own, j ∈ vs) (ht : RdT K tt gt) (he : RdE K te ge) : RdE K (tLc wi g tt te vs) (xLc gi xg gt ge vs) := by
  intro e σ ss H w z w' o s h Q q
  unfold xLc at h
  obtain ⟨⟨as, w1⟩, h1, h⟩ := Option.bind_eq_some_iff.mp h
  dsimp only at h
  split at h
  · rename_i hsm
    obtain ⟨⟨rs, wf⟩, h2, h⟩ := Option.map_eq_some_iff.mp h
    simp only [Prod.mk.injEq] at h
    obtain ⟨rfl, rfl⟩ := h
    have hlen : as.length ≤ 10000 := of_decide_eq_true hsm
    refine hi e σ ss H w as w1 o s h1 _ fun J H1 x1 o1 wk D hD => ?_
    obtain ⟨G, Y, wk, hG, hY⟩ := wk
    have m2 : More e H1 (withM e D).M := fun p z => by
      rcases z with z | z
      · exact .inl z
      · exact .inr (by rw [z]; exact hD)
    have s1 : SR K (withM e D) (upd H1 D (.lst [])) (wipeS ss vs) (wipe σ vs) := SR.with o1 ((o.sr x1 s).wipe vs) hD
    have nD : D ∉ e.ws := fun z => o1.live D (o1.sub D z) hD
    refine lc_it wk (fun i H2 => ∃ acc avs w2 rest, Xt e H1 H2 ∧ Ok K (withM e D) H2 w2 ∧ SR K (withM e D) H2 (wipeS ss vs) (wipe σ vs) ∧ H2 D = some (.lst avs) ∧ Reps K (withM e D) H2 acc avs ∧ acc.length ≤ i ∧
      lcLoop xg gt ge (wipeS ss vs) (as.drop i) w2 = some (rest, wf) ∧ acc ++ rest = rs) ?_ (fun i H2 _ hp => hG H2 hp.choose_spec.choose_spec.choose_spec.choose_spec.1) ?_ ?_
    · exact ⟨[], [], w1, rs, Xt.new hD, o1.with hD, s1, upd_same, rfl, Nat.zero_le _, h2, rfl⟩
    · rintro i x H2 H3 hlt ⟨acc, avs, w2, rest, x2, o2, s2, d2, r2, l2, lo, er⟩ hy
      obtain ⟨st, a, ha, ra⟩ := hY (withM e D).M i H2 w2 x H3 m2 (fun p z => .inl z) x2 o2 hlt hy
      have o3 : Ok K (withM e D) H3 w2 := o2.grow st
      have x3 : Xt (withM e D) H2 H3 := fun c u _ z => st c u z
      have s3 := o2.sr x3 s2
      have edrop : as.drop i = a :: as.drop (i + 1) := by
        rw [List.drop_eq_getElem_cons hlt]
        rw [List.getElem?_eq_getElem hlt] at ha
        rw [Option.some.inj ha]
      rw [edrop] at lo
      unfold lcLoop at lo
      obtain ⟨ss1, l3, lo⟩ := Option.bind_eq_some_iff.mp lo
      obtain ⟨⟨b, w3⟩, l4, lo⟩ := Option.bind_eq_some_iff.mp lo
      refine hg (withM e D) (wipe σ vs) (wipeS ss vs) H3 w2 a x ss1 o3 s3 ra l3 _ fun σ2 sr2 only => ⟨?_, ?_⟩
      · rw [only.wipe ho, wipe_wipe]
      refine ht (withM e D) σ2 ss1 H3 w2 b w3 o3 sr2 l4 _ fun H4 x4 o4 => ?_
      have d4 : H4 D = some (.lst avs) := x4 D _ nD (st D _ d2)
      have x24 : Xt e H1 H4 := x2.trans (Xt.trans (e := e) (fun c u n z => st c u z) x4)
      have s4 := o3.sr x4 s3
      have r4 : Reps K (withM e D) H4 acc avs := o2.reps (Xt.trans x3 x4) r2
      cases b with
      | true =>
        have lo2 : (ge ss1 w3).bind (fun q => (lcLoop xg gt ge (wipeS ss vs) (as.drop (i + 1)) q.2).map fun r => (q.1 :: r.1, r.2)) = some (rest, wf) := lo
        obtain ⟨⟨y, w4⟩, l5, lo3⟩ := Option.bind_eq_some_iff.mp lo2
        obtain ⟨⟨rest2, wf2⟩, l6, lo4⟩ := Option.map_eq_some_iff.mp lo3
        simp only [Prod.mk.injEq] at lo4
        obtain ⟨rfl, rfl⟩ := lo4
        refine he (withM e D) σ2 ss1 H4 w3 y w4 o4 (o3.sr x4 sr2) l5 _ fun v H5 x5 o5 r5 => ?_
        have d5 : H5 D = some (.lst avs) := x5 D _ nD d4
        have l7 := r2.length
        refine ⟨avs, d5, ok_small' (decide_eq_true (by omega)), ?_⟩
        have stay : ∀ c u, ¬ (withM e D).M c → H5 c = some u → (upd H5 D (.lst (avs ++ [v]))) c = some u := fun c u n z => by
          rw [upd_ne (fun w => n (.inr w))]
          exact z
        have up : ∀ {a : A} {v : V}, Rep K (withM e D) H5 a v → Rep K (withM e D) (upd H5 D (.lst (avs ++ [v]))) a v → True := fun _ _ => trivial
        refine ⟨acc ++ [y], avs ++ [v], w4, rest2, ?_, ?_, ?_, upd_same, ?_, ?_, l6, ?_⟩
        · intro c u n z
          rw [upd_ne (ne_of_none z hD)]
          exact x5 c u n (x24 c u n z)
        · refine ⟨o5.sub, fun p hp => ?_, o5.len, o5.nod, fun n p xs q1 q2 => ?_⟩
          · by_cases hpD : p = D
            · rw [hpD, upd_same]
              exact fun z => nomatch z
            · rw [upd_ne hpD]
              exact o5.live p hp
          · obtain ⟨us, q3, q4⟩ := o5.cel n p xs q1 q2
            have hpD : p ≠ D := fun z => nD (by rw [← z]; exact List.mem_of_getElem? q1)
            exact ⟨us, by rw [upd_ne hpD]; exact q3, Reps.less (e := withM e D) (M2 := (withM e D).M) (fun _ z => z) stay xs us q4⟩
        · have s5 := o4.sr x5 s4
          exact ⟨s5.1, fun i a q => by
            obtain ⟨u, q1, q2⟩ := s5.2 i a q
            exact ⟨u, q1, Rep.less (e := withM e D) (M2 := (withM e D).M) (fun _ z => z) stay a u q2⟩⟩
        · have r6 := reps_snoc (o4.reps x5 r4) r5
          exact Reps.less (e := withM e D) (M2 := (withM e D).M) (fun _ z => z) stay _ _ r6
        · rw [List.length_append, List.length_singleton]
          omega
        · rw [List.append_assoc]
          exact er
      | false =>
        exact ⟨acc, avs, w3, rest, x24, o4, s4, d4, r4, by omega, lo, er⟩
    · rintro H2 ⟨acc, avs, w2, rest, x2, o2, s2, d2, r2, l2, lo, er⟩
      rw [List.drop_length] at lo
      cases lo
      rw [List.append_nil] at er
      subst er
      refine q (.ref D) H2 (x1.trans x2) ?_ ⟨D, avs, rfl, ⟨fun z => o1.live D z hD, d2⟩, Reps.less (e := withM e D) (M2 := e.M) (fun p z => .inl z) (fun _ _ _ z => z) acc avs r2⟩
      exact ⟨o1.sub, fun p hp => o2.live p (.inl hp), o2.len, o2.nod, fun n p xs q1 q2 => by
        obtain ⟨us, q3, q4⟩ := o2.cel n p xs q1 q2
        exact ⟨us, q3, Reps.less (e := withM e D) (M2 := e.M) (fun p z => .inl z) (fun _ _ _ z => z) xs us q4⟩⟩
  · cases h
theorem rd_yes : RdT K tYes xYes := by
  intro e σ ss H w b w' o s h Q q
  cases h
  exact q H Xt.refl o

/-! ### statements -/
def OutOk (K : PySem.W.Frag) (e : En) (H : Hp) (D : Ends) : Out → Prop
  | .nx ss' w' => ∀ σ' H', Xt e H H' → Ok K e H' w' → SR K e H' ss' σ' → D.nx σ' H'
  | .rt a w' => ∀ v H', Xt e H H' → Ok K e H' w' → Rep K e H' a v → D.rt v H'
  | .bk ss' w' => ∀ σ' H', Xt e H H' → Ok K e H' w' → SR K e H' ss' σ' → D.bk σ' H'
theorem OutOk.on {D : Ends} {out : Out} (h : OutOk K e H D out) (x : Xt e H H') : OutOk K e H' D out := by
  cases out with
  | nx ss' w' => exact fun σ' H2 x2 => h σ' H2 (x.trans x2)
  | rt a w' => exact fun v H2 x2 => h v H2 (x.trans x2)
  | bk ss' w' => exact fun σ' H2 x2 => h σ' H2 (x.trans x2)
def RdS (K : PySem.W.Frag) (t : TS) (g : GS) : Prop := ∀ e σ ss H w out (D : Ends), Ok K e H w → SR K e H ss σ → g ss w = some out → OutOk K e H D out → t D σ H
theorem rs_next : RdS K tNext xNext := by
  intro e σ ss H w out D o s h k
  cases h
  exact k σ H Xt.refl o s
theorem rs_seq {t u : TS} {g h : GS} (h1 : RdS K t g) (h2 : RdS K u h) : RdS K (tSeq t u) (xSeq g h) := by
  intro e σ ss H w out D o s hg k
  unfold xSeq at hg
  obtain ⟨o1, h3, hg⟩ := Option.bind_eq_some_iff.mp hg
  refine h1 e σ ss H w o1 { D with nx := u D } o s h3 ?_
  cases o1 with
  | nx ss1 w1 => exact fun σ' H' x' o' s' => h2 e σ' ss1 H' w1 out D o' s' hg (k.on x')
  | rt a w1 =>
    cases hg
    exact k
  | bk ss1 w1 =>
    cases hg
    exact k
theorem rs_asg {own : List Nat} {te : TE} {ge : GE} {g : TG} {xg : GG} (he : RdE K te ge) (hg : RdG K own g xg) : RdS K (tAsg te g) (xAsg ge xg) := by
  intro e σ ss H w out D o s h k
  unfold xAsg at h
  obtain ⟨⟨x, w1⟩, h1, h⟩ := Option.bind_eq_some_iff.mp h
  obtain ⟨ss1, h2, rfl⟩ := Option.map_eq_some_iff.mp h
  refine he e σ ss H w x w1 o s h1 _ fun v H1 x1 o1 r1 => ?_
  exact hg e σ ss H1 w1 x v ss1 o1 (o.sr x1 s) r1 h2 _ fun σ' s' _ => k σ' H1 x1 o1 s'
theorem rs_ret {te : TE} {ge : GE} (he : RdE K te ge) : RdS K (tRet te) (xRet ge) := by
  intro e σ ss H w out D o s h k
  unfold xRet at h
  obtain ⟨⟨x, w1⟩, h1, rfl⟩ := Option.map_eq_some_iff.mp h
  exact he e σ ss H w x w1 o s h1 _ fun v H1 x1 o1 r1 => k v H1 x1 o1 r1
theorem rs_if {t : TT} {u v : TS} {gt : GT} {g h : GS} (ht : RdT K t gt) (h1 : RdS K u g) (h2 : RdS K v h) : RdS K (tIfS t u v) (xIfS gt g h) := by
  intro e σ ss H w out D o s hg k
  unfold xIfS at hg
  obtain ⟨⟨b, w1⟩, h3, hg⟩ := Option.bind_eq_some_iff.mp hg
  refine ht e σ ss H w b w1 o s h3 _ fun H1 x1 o1 => ?_
  cases b with
  | true => exact h1 e σ ss H1 w1 out D o1 (o.sr x1 s) hg (k.on x1)
  | false => exact h2 e σ ss H1 w1 out D o1 (o.sr x1 s) hg (k.on x1)
theorem rs_drop {te : TE} {ge : GE} (he : RdE K te ge) : RdS K (tDrop te) (xDrop ge) := by
  intro e σ ss H w out D o s h k
  unfold xDrop at h
  obtain ⟨⟨x, w1⟩, h1, rfl⟩ := Option.map_eq_some_iff.mp h
  exact he e σ ss H w x w1 o s h1 _ fun v H1 x1 o1 r1 => k σ H1 x1 o1 (o.sr x1 s)
theorem rs_brk : RdS K tBreak xBrk := by
  intro e σ ss H w out D o s h k
  cases h
  exact k σ H Xt.refl o s
theorem rs_never : RdS K tNever xNever := by
  intro e σ ss H w out D o s h k
  cases h
theorem rs_for {wi : TI} {gi : GI} {own : List Nat} {g : TG} {xg : GG} {tb : TS} {gb : GS} (hi : RdI K wi gi) (hg : RdG K own g xg) (hb : RdS K tb gb) : RdS K (tFor wi g tb) (xFor gi xg gb) := by
  intro e σ ss H w out D o s h k
  unfold xFor at h
  obtain ⟨⟨as, w1⟩, h1, h⟩ := Option.bind_eq_some_iff.mp h
  refine hi e σ ss H w as w1 o s h1 _ fun J H1 x1 o1 wk => ?_
  obtain ⟨G, Y, wk, hG, hY⟩ := wk
  refine for_it wk (fun i σ2 H2 => ∃ ss2 w2, Xt e H1 H2 ∧ Ok K e H2 w2 ∧ SR K e H2 ss2 σ2 ∧ forLoop xg gb (as.drop i) ss2 w2 = some out) ⟨ss, w1, Xt.refl, o1, o.sr x1 s, h⟩ (fun i σ2 H2 _ hp => hG H2 hp.choose_spec.choose_spec.1) ?_ ?_
  · rintro i x σ2 H2 H3 hlt ⟨ss2, w2, x2, o2, s2, lo⟩ hy
    obtain ⟨st, a, ha, ra⟩ := hY e.M i H2 w2 x H3 (fun p z => .inl z) (fun _ z => z) x2 o2 hlt hy
    have o3 : Ok K e H3 w2 := o2.grow st
    have x3 : Xt e H2 H3 := fun c u _ z => st c u z
    have edrop : as.drop i = a :: as.drop (i + 1) := by
      rw [List.drop_eq_getElem_cons hlt]
      rw [List.getElem?_eq_getElem hlt] at ha
      rw [Option.some.inj ha]
    rw [edrop] at lo
    unfold forLoop at lo
    obtain ⟨ss3, l3, lo⟩ := Option.bind_eq_some_iff.mp lo
    obtain ⟨o5, l4, lo⟩ := Option.bind_eq_some_iff.mp lo
    refine hg e σ2 ss2 H3 w2 a x ss3 o3 (o2.sr x3 s2) ra l3 _ fun σ4 s4 _ => ?_
    refine hb e σ4 ss3 H3 w2 o5 _ o3 s4 l4 ?_
    have x13 : Xt e H1 H3 := x2.trans x3
    cases o5 with
    | nx ss4 w4 => exact fun σ5 H5 x5 o6 s5 => ⟨ss4, w4, x13.trans x5, o6, s5, lo⟩
    | rt b w4 =>
      have lo2 : some (Out.rt b w4) = some out := lo
      cases lo2
      exact k.on (x1.trans x13)
    | bk ss4 w4 =>
      have lo2 : some (Out.nx ss4 w4) = some out := lo
      cases lo2
      exact fun σ5 H5 x5 o6 s5 => k σ5 H5 (x1.trans (x13.trans x5)) o6 s5
  · rintro σ2 H2 ⟨ss2, w2, x2, o2, s2, lo⟩
    rw [List.drop_length] at lo
    cases lo
    exact k σ2 H2 (x1.trans x2) o2 s2
end
end Sp
/-! enumerate(tuple), one argument: the call, its turns. -/
namespace Sp
open PySem PySem.Spec PyProof.Rows L2

/-- the record of a new enumerate over the iterator at the heap's end -/
abbrev enObj (it : Addr) : Obj := { cls := .type "enumerate", data := .fields #[.none, .bool false, .ref it, rawInt 0, .none, .none] }
theorem en_new {v : Value} {o : Obj} {G : Heap → Prop} (B : Begins v o G) :
    Meets (Builtin.«enumerate.__new__» ⟨[.type "enumerate", v], []⟩) (fun _ R s => G s.heap ∧ R (.ok (.ret (.ref (s.heap.push o).objs.size))) { s with heap := (s.heap.push o).push (enObj s.heap.objs.size) }) :=
  .of_wp fun prog w A R s hs => by
    obtain ⟨hp, gn, dr, tk, os⟩ := s
    obtain ⟨hG, hR⟩ := hs
    have sub0 := sub_enumerate
    have it0 : ∀ {A1 : Around} {E1 : Value → Shared → Prop} {Q1 : Value → Shared → Prop}, Q1 (.ref hp.objs.size) ⟨hp.push o, gn, dr, tk, os⟩ → wpAny (model prog w) A1 (pyIter v) Q1 E1 ⟨hp, gn, dr, tk, os⟩ :=
      fun q => B.iter prog w _ _ ⟨hp, gn, dr, tk, os⟩ _ hG q
    wp_walk using it0
    refine wpAny_stack_any fun _ => wpAny_pure ?_
    split
    · rename_i cc _ _ _ _ _
      cases (cc == Value.type "enumerate") <;> (wp_walk using it0; exact ⟨_, rfl, hR⟩)
    · wp_walk using it0
      exact ⟨_, rfl, hR⟩
section
variable {prog : Program} {w : World} {A : Around} {E : Value → Shared → Prop} {s : Shared}
theorem en_call {v : Value} {o : Obj} {G : Heap → Prop} {Q : Value → Shared → Prop} (B : Begins v o G) (hG : G s.heap)
    (k : IsEnum ((s.heap.push o).push (enObj s.heap.objs.size)) (s.heap.objs.size + 1) s.heap.objs.size 0 .none → ((s.heap.push o).push (enObj s.heap.objs.size)).get? s.heap.objs.size = some o →
      (∀ b u, s.heap.get? b = some u → ((s.heap.push o).push (enObj s.heap.objs.size)).get? b = some u) → Q (.ref (s.heap.objs.size + 1)) { s with heap := (s.heap.push o).push (enObj s.heap.objs.size) }) :
    wpAny (model prog w) A (call (.type "enumerate") [v]) Q E s := by
  have sz : (s.heap.push o).objs.size = s.heap.objs.size + 1 := Heap.size_push ..
  have en : IsEnum ((s.heap.push o).push (enObj s.heap.objs.size)) (s.heap.objs.size + 1) s.heap.objs.size 0 .none := by
    have z := Heap.get?_push_size (s.heap.push o) (o := enObj s.heap.objs.size) rfl
    rw [sz] at z
    exact z
  refine callType_new F.called_enumerate (by decide) (F.typeCall_enumerate_1 _) (F.newCall_enumerate_1 _) (fun ob => F.args_object_init_2 ob _) F.entry_enumerate_new (en_new B) ⟨hG, ?_⟩
  show _ ∧ _
  rw [sz]
  exact ⟨⟨_, en, rfl⟩, k en (Heap.get?_push_of_some _ (Heap.get?_push_size _ B.free)) fun b u x => Heap.get?_push_of_some _ (Heap.get?_push_of_some _ x)⟩
end

/-- each item of the tuple at a in a new pair with its place -/
def ItE (K : PySem.W.Frag) (a : Addr) : It where
  go := fun i H => ∃ (xs : List V) (x : V), SqT K H a xs ∧ xs[i]? = some x
  yld := fun i H v H' => ∃ T x, v = .ref T ∧ H T = none ∧ H' = upd H T (.tup [.int (i : Nat), x]) ∧ ∀ xs, SqT K H a xs → xs[i]? = some x
  stop := fun i H => ∃ xs : List V, SqT K H a xs ∧ xs.length = i
theorem turn_en {P : Program} {w : World} {K : PySem.W.Frag} {el : List Expr} {kk : Nat} {tp : Pos} (a e it : Addr) (hai : a ≠ it) (hae : e ≠ it) :
    Turn P w K (.Tuple el kk tp) (ItE K a) [e, it] e (fun i h => (∃ old, IsEnum h e it ((i : Nat) : Int) old) ∧ h.IsTupleIter it a i) where
  mem := List.mem_cons_self
  obj := fun i h st b hb => by
    obtain ⟨⟨old, he⟩, ⟨ob, ho, hc, hd⟩⟩ := st
    rcases List.mem_cons.mp hb with z | z
    · rw [z]
      exact ⟨_, he, fun v q => nomatch q⟩
    · rw [List.mem_singleton.mp z]
      exact ⟨ob, ho, fun v q => by
        rw [hd] at q
        cases q⟩
  keep := fun i h h' st k => ⟨let ⟨old, he⟩ := st.1; ⟨old, k e List.mem_cons_self _ he⟩, st.2.at fun ob q => k it (List.mem_cons_of_mem _ List.mem_cons_self) ob q⟩
  item := by
    intro X hP hw hK hc i pins s σ H E I hf st hg
    subst hP hw hK
    obtain ⟨⟨old, he⟩, hit⟩ := st
    obtain ⟨xs, x, hq, hx⟩ := hg
    obtain ⟨its, rv, tp2, hz⟩ := I.tuple hq
    obtain ⟨u, hu, ru⟩ := rv.get hx
    have le : e < s.heap.objs.size := Heap.lt_size he
    have li : it < s.heap.objs.size := by
      obtain ⟨_, q, _⟩ := hit
      exact Heap.lt_size q
    have hh : X.A.in1.handled = none := I.ok.hd hc
    have hlt : i < its.toArray.size := by
      rw [List.size_toArray, ← rv.length]
      exact (List.getElem?_eq_some_iff.mp hx).1
    have ea : e ≠ a := fun z => by
      subst z
      obtain ⟨ob, h1, h2, _⟩ := tp2
      rw [he] at h1
      cases h1
      have h3 : Value.type "enumerate" = Value.type "tuple" := h2
      injection h3 with h3
      exact absurd h3 (by decide)
    have D : Draws X.prog X.w X.A.in1 it [it, a] its.toArray.size (fun i v => its.toArray[i]? = some v) (fun i h => h.IsTupleIter it a i ∧ h.IsTuple a its.toArray) := Draws.tuple hh it a hai its.toArray
    refine wpAny_pyNext_enum_itemC D he ⟨hit, tp2⟩ hlt hae (by simp [hae, ea]) fun y h1 tk hy ho1 st1 hT sz1 k1 => ?_
    have ey : y = u := by
      have h2 : its.toArray[i]? = some u := by simpa using hu
      rw [h2] at hy
      exact (Option.some.inj hy).symm
    subst ey
    refine ⟨_, rfl, wpAny_letOwnedTupleGo_enum (s := { s with heap := h1, toks := tk + 1 }) ho1 fun h2 he2 sb => ?_⟩
    have hT2 := (sb.2 _ (Nat.ne_of_gt le)).trans hT
    have new : ObjOk X.prog X.w (upd H s.heap.objs.size (.tup [.int (i : Nat), x])) h2 s.heap.objs.size (.tup [.int (i : Nat), x]) :=
      ⟨by show 2 ≤ sizeLine; decide, [.int i tk, y], .cons ⟨_, rfl⟩ (.cons ru .nil), ⟨_, hT2, rfl, _, rfl⟩⟩
    have I1 : Inv X pins σ (upd H s.heap.objs.size (.tup [.int (i : Nat), x])) { s with heap := h2, toks := tk + 1 } :=
      I.turnedNew (ch := [e, it]) (fun b ob hb q => (sb.2 b (fun z => hb (by rw [z]; exact List.mem_cons_self))).trans (k1 b ob (fun z => hb (by rw [z]; exact List.mem_cons_self)) (fun z => hb (by rw [z]; exact List.mem_cons_of_mem _ List.mem_cons_self)) q)) hf (Nat.le_refl _) new
    refine ⟨.ref s.heap.objs.size, _, I1, rfl, ⟨_, x, rfl, I.hok.fresh (Nat.le_refl _), rfl, fun ys hy2 => ?_⟩, ⟨⟨y, ?_⟩, st1.1.at fun ob q => (sb.2 it (Ne.symm hae)).trans q⟩, fun b hb => ?_⟩
    · rw [I.tuple_inj hy2 hq]
      exact hx
    · rw [show ((i + 1 : Nat) : Int) = (i : Int) + 1 by omega]
      exact he2
    · have lb : b < s.heap.objs.size := by
        rcases List.mem_cons.mp hb with z | z
        · rw [z]
          exact le
        · rw [List.mem_singleton.mp z]
          exact li
      rw [upd_ne (Nat.ne_of_lt lb)]
      exact (hf b hb).1
  done := by
    intro X hP hw hK hc i pins s σ H E I hf st hg
    subst hP hw hK
    obtain ⟨⟨old, he⟩, hit⟩ := st
    obtain ⟨xs, hq, hx⟩ := hg
    obtain ⟨its, rv, tp2, hz⟩ := I.tuple hq
    have hh : X.A.in1.handled = none := I.ok.hd hc
    obtain ⟨f0, f1, f2, f3, f4, f5⟩ := hf it (List.mem_cons_of_mem _ List.mem_cons_self)
    have hl : its.toArray.size = i := by
      rw [List.size_toArray, ← rv.length]
      exact hx
    have D : Draws X.prog X.w X.A.in1 it [it, a] its.toArray.size (fun i v => its.toArray[i]? = some v) (fun i h => h.IsTupleIter it a i ∧ h.IsTuple a its.toArray) := Draws.tuple hh it a hai its.toArray
    rw [hl] at D
    exact wpAny_pyNext_enum_endD D he ⟨hit, tp2⟩ fun h1 eb => ⟨rfl, I.turned (t' := s.toks) (fun b ob hb q => eb b ob hb q) f0 f1 f3 f4 f5⟩
  self := fun A i s Q E st h => let ⟨⟨_, he⟩, _⟩ := st; wpAny_pyIter_enum he h
def tEnumT (K : PySem.W.Frag) (ta : TA) : TI := fun σ H R => ta σ H fun vs H1 => ∃ a xs, vs = [.ref a] ∧ SqT K H1 a xs ∧ R (ItE K a) H1
theorem pi_enT {X : Cx} {e : Expr} {ta : TA} {p pos tp : Pos} {el : List Expr} {kk : Nat} (hg : Gl X "enumerate") (hm : X.mg "enumerate" = none) (ha : PA X [e] ta) (hs : starEach [e] X.env = [(false, eval e X.env)] := by rfl) :
    PI X (.Tuple el kk tp) (.Call (.Name "enumerate" p) [e] [] pos) (tEnumT X.K ta) := by
  refine ⟨fun pins s σ H R I h => ?_⟩
  refine Call_ (ld_blt I hg hm boot_enumerate (callWith_type1 (thn (ha.run pos pins s σ H _ I h) fun us s1 ⟨vs, H1, I1, r1, q1⟩ => ?_) hs rfl))
  · obtain ⟨a, xs, ex, hq, q⟩ := q1
    subst ex
    cases r1 with
    | cons r rr =>
      cases rr
      cases r
      obtain ⟨its, rv, tp2, hz⟩ := I1.tuple hq
      have la : a < s1.heap.objs.size := by
        obtain ⟨_, q2, _⟩ := tp2
        exact Heap.lt_size q2
      refine en_call (begins_tuple a its.toArray) tp2 fun he ho kp => wpAny_pyIter_enum he ?_
      have I2 := I1.kept (t' := s1.toks) kp
      refine ⟨s1.heap.objs.size + 1, [s1.heap.objs.size + 1, s1.heap.objs.size], _, _, H1, rfl, I2, turn_en a (s1.heap.objs.size + 1) s1.heap.objs.size (Nat.ne_of_lt la) (Nat.succ_ne_self _), ⟨⟨.none, he⟩, ⟨_, ho, rfl, rfl⟩⟩, fun b hb => ?_, q⟩
      have le : s1.heap.objs.size ≤ b := by
        rcases List.mem_cons.mp hb with z | z
        · rw [z]
          exact Nat.le_succ _
        · rw [List.mem_singleton.mp z]
          exact Nat.le_refl _
      exact I1.fpOk le (I1.hok.fresh le)
theorem walk_en {K : PySem.W.Frag} {a : Addr} {xs : List V} : Walk (ItE K a) xs.length (fun H => SqT K H a xs) (YPair (fun i => some (.int (i : Nat))) (fun i => xs[i]?)) := by
  refine ⟨fun i _ hi q => ⟨xs, xs[i], q, List.getElem?_eq_getElem hi⟩, fun _ q => ⟨xs, q, rfl⟩, fun i H v H' _ q y => ?_⟩
  obtain ⟨T, x, e1, e2, e3, e4⟩ := y
  exact ⟨T, .int (i : Nat), x, e1, e2, e3, rfl, e4 xs q⟩
theorem ri_en {K : PySem.W.Frag} {ta : TE} {ga : GE} (ha : RdE K ta ga) : RdI K (tEnumT K (tCons ta tNil)) (yEnum ga) := by
  intro e σ ss H w as w' o s h R q
  unfold yEnum at h
  obtain ⟨⟨x, w1⟩, h1, h⟩ := Option.bind_eq_some_iff.mp h
  refine ha e σ ss H w x w1 o s h1 _ fun v1 H1 x1 o1 r1 => ?_
  cases x with
  | tup xs =>
    simp only [Option.some.injEq, Prod.mk.injEq] at h
    obtain ⟨rfl, rfl⟩ := h
    obtain ⟨p, vs, rfl, h2, h3⟩ := id r1
    have st : ∀ H2, Xt e H1 H2 → SqT K H2 p vs := fun H2 x2 => by
      rcases h2 with ⟨n, h2⟩ | h2
      · exact .inl (rd_xt x2 (fun z => n (o1.sub p z)) h2)
      · exact h2.sq H2
    refine ⟨p, vs, rfl, st H1 Xt.refl, q _ H1 x1 o1 ?_⟩
    refine wk_pairs walk_en (by rw [nums_length, h3.length, Nat.min_self]) st ?_ (items_get h3 o1.sub)
    intro M2 i H2 w2 x m x2 o2 hx hi
    cases hx
    rw [nums_length] at hi
    refine ⟨_, nums_get 0 hi, ?_⟩
    show _ = V.int _
    rw [Int.zero_add]
  | _ => cases h
end Sp
/-! LAY 4: the rules by which a def is read. -/
namespace Sp
open PySem PySem.Spec PyProof.Rows L2

structure LE (X : Cx) (e : Expr) (t : TE) (g : GE) : Prop where
  pe : PE X e t
  rd : RdE X.K t g
structure LT (X : Cx) (e : Expr) (t : TT) (g : GT) : Prop where
  pe : PT X e t
  rd : RdT X.K t g
structure LW (X : Cx) (e : Expr) (t : TT) (g : GT) : Prop where
  pe : PW X e t
  rd : RdT X.K t g
structure LA (X : Cx) (es : List Expr) (t : TA) (g : GA) : Prop where
  pe : PA X es t
  rd : RdA X.K t g
structure LO (X : Cx) (e : Option Expr) (t : TO) (g : GO) : Prop where
  pe : PO X e t
  rd : RdO X.K t g
structure LG (X : Cx) (own : List Nat) (e : Expr) (t : TG) (g : GG) : Prop where
  pe : PG X e t
  rd : RdG X.K own t g
structure LGs (X : Cx) (own : List Nat) (n : Nat) (e : List Expr) (t : TGs) (g : GGs) : Prop where
  pe : PGs X e t
  rd : RdGs X.K own n t g
structure LI (X : Cx) (tg it : Expr) (t : TI) (g : GI) : Prop where
  pe : PI X tg it t
  rd : RdI X.K t g
structure LQ (X : Cx) (es : List Expr) (t : TT) (g : GT) : Prop where
  pe : PTs X es t
  rd : RdT X.K t g
structure LS (X : Cx) (s : Stmt) (t : TS) (g : GS) : Prop where
  pe : PS X s t
  rd : RdS X.K t g
structure LSs (X : Cx) (s : List Stmt) (t : TS) (g : GS) : Prop where
  pe : PSs X s t
  rd : RdS X.K t g
/-- a constant of the module -/
def GC (K : PySem.W.Frag) (mg : Str → Option Value) (x : Str) (v : V) (a : A) : Prop := ∃ u, mg x = some u ∧ RelV v u ∧ ∀ e H, Rep K e H a v
/-- a def of the module that does what f tells -/
structure Has (P : Program) (w : World) (K : PySem.W.Frag) (mg : Str → Option Value) (base : Heap) (x : Str) (k n : Nat) (f : GF) : Prop where
  ex : ∃ (fa : Addr) (fd : FuncData) (ps : List Str), mg x = some (.ref fa) ∧ FnOk P w K mg base CX0 k fa fd ps (spG K n f) ∧ PySem.W.keepIn K (.ref fa) = true ∧ Binds K fd ps []
  ar : ∀ as w r, f as w = some r → as.length = n

theorem b_len : bootBuiltins "len" = some (.builtin "len") := by decide +kernel
theorem b_all : bootBuiltins "all" = some (.builtin "all") := by decide +kernel
theorem b_abs : bootBuiltins "abs" = some (.builtin "abs") := by decide +kernel
theorem b_max : bootBuiltins "max" = some (.builtin "max") := by decide +kernel
theorem b_min : bootBuiltins "min" = some (.builtin "min") := by decide +kernel
theorem b_isi : bootBuiltins "isinstance" = some (.builtin "isinstance") := by decide +kernel
theorem b_int : bootBuiltins "int" = some (.type "int") := by decide +kernel
theorem b_str : bootBuiltins "str" = some (.type "str") := by decide +kernel
theorem b_bool : bootBuiltins "bool" = some (.type "bool") := by decide +kernel
theorem b_tuple : bootBuiltins "tuple" = some (.type "tuple") := by decide +kernel

section
variable {X : Cx} {pos : Pos} {a b : Expr} {ta tb : TE} {ga gb : GE}
/-! ### expressions -/
theorem e_v (i : Nat) {x : Str} (hN : X.N[i]? = some x := by rfl) (hv : Vis X.env.scope x := by first | exact Or.inl rfl | exact Or.inr (Or.inl rfl) | exact Or.inr (Or.inr rfl)) (hd : (x == ("__debug__" : Str)) = false := by decide)
    (hcd : (x == ("__classdict__" : Str)) = false := by decide) : LE X (.Name x pos) (tVar i) (xVar i) := ⟨pe_var hN hv hd hcd, rd_var⟩
theorem e_i {i : Int} {j : Nat} : LE X (.Constant (.int i) j pos) (tC (.int i)) (xC (.int i)) := ⟨pe_int, rd_c fun _ _ => rfl⟩
theorem e_b {c : Bool} {j : Nat} : LE X (.Constant (.bool c) j pos) (tC (.bl c)) (xC (.bl c)) := ⟨pe_bl, rd_c fun _ _ => rfl⟩
theorem e_n {j : Nat} : LE X (.Constant .none j pos) (tC .non) (xC .non) := ⟨pe_non, rd_c fun _ _ => rfl⟩
theorem e_s (s : String) {x : Str} {j : Nat} (h : Str.ofString s = x := by rfl) : LE X (.Constant (.str x) j pos) (tC (.str x)) (xC (.str s)) := ⟨pe_str, rd_c fun _ _ => by rw [← h]; rfl⟩
theorem e_g {x : Str} {v : V} {z : A} (h : GC X.K X.mg x v z) (hg : Gl X x := by rfl) (hd : (x == ("__debug__" : Str)) = false := by decide) : LE X (.Name x pos) (tC v) (xC z) := by
  obtain ⟨u, h1, h2, h3⟩ := h
  exact ⟨pe_glob hg h1 h2 hd, rd_c h3⟩
theorem e_op {op : Operator} {r : R2} {f : A → A → Option A} (ho : OpR X (binaryOp op) r) (hr : RdR X.K r f) (ha : LE X a ta ga) (hb : LE X b tb gb) : LE X (.BinOp a op b pos) (tOp r ta tb) (xOp f ga gb) := ⟨pe_op ho ha.pe hb.pe, rd_op hr ha.rd hb.rd⟩
theorem e_add (ha : LE X a ta ga) (hb : LE X b tb gb) : LE X (.BinOp a .Add b pos) (tOp (rAddX X.K) ta tb) (xOp fAdd ga gb) := e_op op_addX rr_add ha hb
theorem e_sub (ha : LE X a ta ga) (hb : LE X b tb gb) : LE X (.BinOp a .Sub b pos) (tOp (rI0 fun i j => .int (i - j)) ta tb) (xOp fSub ga gb) := e_op op_sub rr_sub ha hb
theorem e_mul (ha : LE X a ta ga) (hb : LE X b tb gb) : LE X (.BinOp a .Mult b pos) (tOp (rI CMulW fun i j => .int (i * j)) ta tb) (xOp fMul ga gb) := e_op op_mulW rr_mul ha hb
theorem e_div (ha : LE X a ta ga) (hb : LE X b tb gb) : LE X (.BinOp a .FloorDiv b pos) (tOp (rI CDivX fun i j => .int (i.fdiv j)) ta tb) (xOp fDivN ga gb) := e_op op_divX rr_div ha hb
theorem e_mod (ha : LE X a ta ga) (hb : LE X b tb gb) : LE X (.BinOp a .Mod b pos) (tOp (rI (fun _ j => 0 < j) fun i j => .int (i % j)) ta tb) (xOp fMod ga gb) := e_op op_mod rr_mod ha hb
theorem e_neg (ha : LE X a ta ga) : LE X (.UnaryOp .USub a pos) (tUn (rU fun i => .int (-i)) ta) (xUn fNeg ga) := ⟨pe_un un_neg ha.pe, rd_un ru_neg ha.rd⟩
theorem e_cm {op : CmpOp} {r : R2} {f : A → A → Option A} (ho : OpR X (compareOp op) r) (hr : RdR X.K r f) (ha : LE X a ta ga) (hb : LE X b tb gb) (hm : behindInMarks op b = false := by first | exact nomark _ | rfl) : LE X (.Compare a [op] [b] pos) (tOp r ta tb) (xOp f ga gb) := ⟨pe_cmpR ho ha.pe hb.pe hm, rd_op hr ha.rd hb.rd⟩
theorem t_cm {op : CmpOp} {r : R2} {f : A → A → Option A} (ho : OpR X (compareOp op) r) (hr : RdR X.K r f) (ha : LE X a ta ga) (hb : LE X b tb gb) (hm : behindInMarks op b = false := by first | exact nomark _ | rfl) : LT X (.Compare a [op] [b] pos) (tTest (tOp r ta tb)) (xT (xOp f ga gb)) := ⟨pt_cmpR ho ha.pe hb.pe hm, rd_T (rd_op hr ha.rd hb.rd)⟩
theorem e_isN {j : Nat} {pos' : Pos} (ha : LE X a ta ga) : LE X (.Compare a [.Is] [.Constant .none j pos'] pos) (tOp rIsX ta (tC .non)) (xUn fIsN ga) := ⟨pe_cmpR op_isX ha.pe pe_non (nomark _), rd_isN ha.rd⟩
theorem t_isN {j : Nat} {pos' : Pos} (ha : LE X a ta ga) : LT X (.Compare a [.Is] [.Constant .none j pos'] pos) (tTest (tOp rIsX ta (tC .non))) (xT (xUn fIsN ga)) := ⟨pt_cmpR op_isX ha.pe pe_non (nomark _), rd_T (rd_isN ha.rd)⟩
theorem e_notN {j : Nat} {pos' : Pos} (ha : LE X a ta ga) : LE X (.Compare a [.IsNot] [.Constant .none j pos'] pos) (tOp rNotX ta (tC .non)) (xUn fNotN ga) := ⟨pe_cmpR op_notX ha.pe pe_non (nomark _), rd_notN ha.rd⟩
theorem t_notN {j : Nat} {pos' : Pos} (ha : LE X a ta ga) : LT X (.Compare a [.IsNot] [.Constant .none j pos'] pos) (tTest (tOp rNotX ta (tC .non))) (xT (xUn fNotN ga)) := ⟨pt_cmpR op_notX ha.pe pe_non (nomark _), rd_T (rd_notN ha.rd)⟩
theorem e_ix (ha : LE X a ta ga) (hb : LE X b tb gb) (hs : PlainIx b := by exact fun _ _ => rfl) : LE X (.Subscript a b pos) (tOp (rIxX X.K) ta tb) (xOp fIx ga gb) := ⟨pe_ix ix_X ha.pe hb.pe hs, rd_op rr_ix ha.rd hb.rd⟩
theorem e_ixC (ha : LE X a ta ga) (hb : LE X b tb gb) (hs : PlainIx b := by exact fun _ _ => rfl) : LE X (.Subscript a b pos) (tOp (rIxX X.K) ta tb) (xIxC ga gb) := ⟨pe_ix ix_X ha.pe hb.pe hs, rd_ixC ha.rd hb.rd⟩
theorem o_n : LO X none tNoPart xONone := ⟨po_none, rd_oNone⟩
theorem o_s (ha : LE X a ta ga) : LO X (some a) (tPart ta) (xOSome ga) := ⟨po_some ha.pe, rd_oSome ha.rd⟩
theorem e_sl {lo hi : Option Expr} {tl th : TO} {gl gh : GO} {p2 : Pos} (ha : LE X a ta ga) (hl : LO X lo tl gl) (hh : LO X hi th gh) : LE X (.Subscript a (.Slice lo hi none p2) pos) (tSl (rSlA X.K) ta tl th) (xSl ga gl gh) := ⟨pe_slice sl_tupA ha.pe hl.pe hh.pe, rd_sl ha.rd hl.rd hh.rd⟩
theorem a_nil : LA X [] tNil xNilA := ⟨pa_nil, rd_nilA⟩
theorem a_cons {es : List Expr} {t : TA} {g : GA} (ha : LE X a ta ga) (hr : LA X es t g) (hs : starEach (a :: es) X.env = (false, eval a X.env) :: starEach es X.env := by rfl) : LA X (a :: es) (tCons ta t) (xConsA ga g) := ⟨pa_cons ha.pe hr.pe hs, rd_consA ha.rd hr.rd⟩
theorem a_star {es : List Expr} {t : TA} {g : GA} {p : Pos} (ha : LE X a ta ga) (hr : LA X es t g) (hs : starEach (.Starred a p :: es) X.env = (true, eval a X.env) :: starEach es X.env := by rfl) : LA X (.Starred a p :: es) (StX.tStar X.K ta t) (xStarA ga g) := ⟨StX.pa_star ha.pe hr.pe hs, rd_starA ha.rd hr.rd⟩
theorem e_tup {es : List Expr} {j : Nat} {t : TA} {g : GA} (h : LA X es t g) : LE X (.Tuple es j pos) (tTup t) (xTup g) := ⟨pe_tup h.pe, rd_tup h.rd⟩
theorem e_lst {es : List Expr} {t : TA} {g : GA} (h : LA X es t g) : LE X (.List es pos) (tLst t) (xLst g) := ⟨pe_lst h.pe, rd_lst h.rd⟩
theorem e_call {k n : Nat} {f : GF} {x : Str} {p : Pos} {es : List Expr} {t : TA} {g : GA} (F : Has X.prog X.w X.K X.mg X.base x k n f) (hr : Room k X.A) (ha : LA X (a :: es) t g) (hg : Gl X x := by rfl) (hdb : (x == ("__debug__" : Str)) = false := by decide)
    (he : starEach (a :: es) X.env = (false, eval a X.env) :: starEach es X.env := by rfl) (hpl : (backTo pos (starEach es X.env)).any (·.1) = false := by rfl) : LE X (.Call (.Name x p) (a :: es) [] pos) (tCall (spG X.K n f) [] E0 t) (xCall f g) := by
  obtain ⟨fa, fd, ps, h1, h2, h3, h4⟩ := F.ex
  exact ⟨pe_call h2 hr hg h1 h3 h4 .nil pass0 ha.pe hdb he hpl, rd_call ha.rd F.ar⟩
theorem e_bl {id : String} {x : Str} {p : Pos} {r : List V → Hp → VK → Prop} {f : List A → Option A} {es : List Expr} {t : TA} {g : GA} (hc : CallR X (.builtin id) r) (hb : RdB X.K r f) (hv : bootBuiltins x = some (.builtin id)) (hm : X.mg x = none) (ha : LA X (a :: es) t g) (hg : Gl X x := by rfl) (hn : x ≠ "__name__" := by decide) (hdb : (x == ("__debug__" : Str)) = false := by decide)
    (he : starEach (a :: es) X.env = (false, eval a X.env) :: starEach es X.env := by rfl) (hpl : (backTo pos (starEach es X.env)).any (·.1) = false := by rfl) : LE X (.Call (.Name x p) (a :: es) [] pos) (tCB r t) (xBlt f g) := ⟨pe_callB hc hg hm hv ha.pe hn hdb he hpl, rd_blt hb ha.rd⟩
theorem e_ty {T : String} {x : Str} {p : Pos} {r : List V → Hp → VK → Prop} {f : List A → Option A} {es : List Expr} {t : TA} {g : GA} (hc : CallR X (.type T) r) (hb : RdB X.K r f) (hv : bootBuiltins x = some (.type T)) (hm : X.mg x = none) (ha : LA X (a :: es) t g) (hg : Gl X x := by rfl) (hn : x ≠ "__name__" := by decide) (hdb : (x == ("__debug__" : Str)) = false := by decide)
    (he : starEach (a :: es) X.env = (false, eval a X.env) :: starEach es X.env := by rfl) (hpl : (backTo pos (starEach es X.env)).any (·.1) = false := by rfl) : LE X (.Call (.Name x p) (a :: es) [] pos) (tCB r t) (xBlt f g) := ⟨pe_callTy hc hg hm hv ha.pe hn hdb he hpl, rd_blt hb ha.rd⟩
theorem e_fn {id : String} {x : Str} {p : Pos} {r : List V → Hp → VK → Prop} {f : List A → Option A} {es : List Expr} {t : TA} {g : GA} (hc : CallR X (.builtin id) r) (hb : RdB X.K r f) (hm : X.mg x = some (.builtin id)) (ha : LA X (a :: es) t g) (hg : Gl X x := by rfl) (hdb : (x == ("__debug__" : Str)) = false := by decide)
    (he : starEach (a :: es) X.env = (false, eval a X.env) :: starEach es X.env := by rfl) (hpl : (backTo pos (starEach es X.env)).any (·.1) = false := by rfl) : LE X (.Call (.Name x p) (a :: es) [] pos) (tCB r t) (xBlt f g) := ⟨pe_callBfun hc hg hm ha.pe hdb he hpl, rd_blt hb ha.rd⟩
/-- isinstance(a, T) -/
theorem e_isi {T : String} {x y : Str} {p p2 : Pos} (hT : T = "int" ∨ T = "bool" ∨ T = "str" ∨ T = "tuple") (hx : bootBuiltins x = some (.builtin "isinstance")) (hmx : X.mg x = none) (hy : bootBuiltins y = some (.type T)) (hmy : X.mg y = none) (ha : LE X a ta ga) (hg : Gl X x := by rfl) (hg2 : Gl X y := by rfl)
    (hn : x ≠ "__name__" := by decide) (hdb : (x == ("__debug__" : Str)) = false := by decide) (hn2 : y ≠ "__name__" := by decide) (hdb2 : (y == ("__debug__" : Str)) = false := by decide)
    (he : starEach [a, .Name y p2] X.env = (false, eval a X.env) :: starEach [.Name y p2] X.env := by rfl) (hpl : (backTo pos (starEach [.Name y p2] X.env)).any (·.1) = false := by rfl) : LE X (.Call (.Name x p) [a, .Name y p2] [] pos) (tCB (rIsi X.K) (tCons ta (tCons (tC (.ty T)) tNil))) (xUn (fIsi T) ga) :=
  ⟨pe_callB call_isi hg hmx hx (pa_cons ha.pe (pa_cons (pe_bltn hg2 hmy hy rfl hn2 hdb2) pa_nil) he) hn hdb he hpl, rd_isi hT ha.rd⟩
theorem e_bits {apos : Pos} (ha : LE X a ta ga) (hbase : attributeBase a "bit_length" X.env (eval a X.env) = eval a X.env := by rfl) (hline : (apos.endLine == pos.line) = true := by rfl) : LE X (.Call (.Attribute a "bit_length" apos) [] [] pos) (tBits ta) (xUn fBits ga) := ⟨pe_bits ha.pe hbase hline, rd_bits ha.rd⟩
theorem e_and1 (ha : LE X a ta ga) : LE X (.BoolOp .And [a] pos) ta ga := ⟨pe_one ha.pe, ha.rd⟩
theorem e_or1 (ha : LE X a ta ga) : LE X (.BoolOp .Or [a] pos) ta ga := ⟨pe_one ha.pe, ha.rd⟩
theorem e_and {r : List Expr} (ha : LE X a ta ga) (hb : LE X (.BoolOp .And (b :: r) pos) tb gb) : LE X (.BoolOp .And (a :: b :: r) pos) (tAndV ta tb) (xAndV ga gb) := ⟨pe_and ha.pe hb.pe, rd_andV ha.rd hb.rd⟩
theorem e_or {r : List Expr} (ha : LE X a ta ga) (hb : LE X (.BoolOp .Or (b :: r) pos) tb gb) : LE X (.BoolOp .Or (a :: b :: r) pos) (tOrV ta tb) (xOrV ga gb) := ⟨pe_or ha.pe hb.pe, rd_orV ha.rd hb.rd⟩
theorem e_not (ha : LE X a ta ga) : LE X (.UnaryOp .Not a pos) (tNotV ta) (xNotV ga) := ⟨pe_not ha.pe, rd_notV ha.rd⟩
/-! ### tests -/
variable {tt uu : TT} {gt gu : GT}
theorem t_val (ha : LE X a ta ga) (he : ∀ whole, isTrue a X.env whole = (do let v ← whole; standAt a.pos; holding [v] (truthy v)) := by exact fun _ => rfl) : LT X a (tB ta) (xT ga) := ⟨pt_val ha.pe he, rd_TB ha.rd⟩
theorem w_and1 (ha : LT X a tt gt) : LW X (.BoolOp .And [a] pos) tt gt := ⟨pw_and1 ha.pe, ha.rd⟩
theorem w_or1 (ha : LT X a tt gt) : LW X (.BoolOp .Or [a] pos) tt gt := ⟨pw_or1 ha.pe, ha.rd⟩
theorem w_and {r : List Expr} (ha : LT X a tt gt) (hb : LW X (.BoolOp .And (b :: r) pos) uu gu) : LW X (.BoolOp .And (a :: b :: r) pos) (tAnd tt uu) (xAnd gt gu) := ⟨pw_and ha.pe hb.pe, rd_and ha.rd hb.rd⟩
theorem w_or {r : List Expr} (ha : LT X a tt gt) (hb : LW X (.BoolOp .Or (b :: r) pos) uu gu) : LW X (.BoolOp .Or (a :: b :: r) pos) (tOr tt uu) (xOr gt gu) := ⟨pw_or ha.pe hb.pe, rd_or ha.rd hb.rd⟩
theorem t_w (h : LW X a tt gt) : LT X a tt gt := ⟨h.pe.pt, h.rd⟩
theorem t_not (h : LT X a tt gt) : LT X (.UnaryOp .Not a pos) (tNot tt) (xNot gt) := ⟨pt_not h.pe, rd_not h.rd⟩
theorem e_if {c : Expr} (hc : LT X c tt gt) (ha : LE X a ta ga) (hb : LE X b tb gb) : LE X (.IfExp c a b pos) (tIf tt ta tb) (xIf gt ga gb) := ⟨pe_ifExp hc.pe ha.pe hb.pe, rd_if hc.rd ha.rd hb.rd⟩
/-! ### targets -/
theorem g_v (i : Nat) {x : Str} (hN : X.N.Nodup) (hi : X.N[i]? = some x := by rfl) (hx : Loc X.env.scope x := by first | exact Or.inl rfl | exact Or.inr rfl) (hf : X.fn x = true ∨ X.env.scope.names.lookup x = some .local := by first | exact .inl rfl | exact .inr rfl) : LG X [i] (.Name x pos) (L2.gName i) (xName i) := ⟨pg_name hN hi hx hf, rg_name⟩
theorem g_nil : LGs X [] 0 [] gNil xNilG := ⟨pgs_nil, rg_nil⟩
theorem g_cons {own own' : List Nat} {n : Nat} {es : List Expr} {t : TG} {u : TGs} {g : GG} {gs : GGs} (h1 : LG X own a t g) (h2 : LGs X own' n es u gs) (hs : (assignEach (a :: es) X.env).map (·.2) = assign a X.env :: (assignEach es X.env).map (·.2) := by rfl) : LGs X (own ++ own') (n + 1) (a :: es) (gCons t u) (xConsG g gs) := ⟨pgs_cons h1.pe h2.pe hs, rg_cons h1.rd h2.rd⟩
theorem g_tup {own : List Nat} {n : Nat} {es : List Expr} {j : Nat} {u : TGs} {gs : GGs} (hc : X.calm = true) (h : LGs X own n es u gs) (hn : (assignEach es X.env).length = n := by rfl) (hst : (assignEach es X.env).findIdx? (·.1) = none := by rfl) : LG X own (.Tuple es j pos) (L2.gTup X.K n u) (xTupG gs) := ⟨pg_tup hc h.pe hn hst, rg_tup h.rd⟩
theorem g_lst {own : List Nat} {n : Nat} {es : List Expr} {j : Nat} {u : TGs} {gs : GGs} (hc : X.calm = true) (h : LGs X own n es u gs) (hn : (assignEach es X.env).length = n := by rfl) (hst : (assignEach es X.env).findIdx? (·.1) = none := by rfl) : LG X own (.Tuple es j pos) (gUnl X.K n u) (xLstG gs) := ⟨pg_unl hc h.pe hn hst, rg_lst h.rd⟩
/-! ### what is walked -/
variable {tg : Expr}
theorem i_tup (ha : LE X a ta ga) : LI X tg a (L2.iTup X.K ta) (yTup ga) := ⟨pi_tup ha.pe, ri_tup ha.rd⟩
theorem i_lst (ha : LE X a ta ga) : LI X tg a (L2.iList X.K ta) (yLst ga) := ⟨pi_list ha.pe, ri_lst ha.rd⟩
theorem i_rng1 {p : Pos} (hm : X.mg "range" = none) (ha : LE X a ta ga) (hg : Gl X "range" := by rfl) (hs : starEach [a] X.env = [(false, eval a X.env)] := by rfl) (hs' : starEach [a] X.env = (false, eval a X.env) :: starEach [] X.env := by rfl) : LI X tg (.Call (.Name "range" p) [a] [] pos) (L2.iRng1 (tCons ta tNil)) (yRng1 ga) := ⟨pi_range1 hg hm (pa_cons ha.pe pa_nil hs') hs, ri_rng1 ha.rd⟩
theorem i_rng2 {p : Pos} (hm : X.mg "range" = none) (ha : LE X a ta ga) (hb : LE X b tb gb) (hg : Gl X "range" := by rfl) (hs : starEach [a, b] X.env = [(false, eval a X.env), (false, eval b X.env)] := by rfl) (hs2 : starEach [b] X.env = [(false, eval b X.env)] := by rfl) (hs3 : starEach [a, b] X.env = (false, eval a X.env) :: starEach [b] X.env := by rfl) (hs4 : starEach [b] X.env = (false, eval b X.env) :: starEach [] X.env := by rfl) :
    LI X tg (.Call (.Name "range" p) [a, b] [] pos) (L2.iRng2 (tCons ta (tCons tb tNil))) (yRng2 ga gb) := ⟨pi_range2 hg hm (pa_cons ha.pe (pa_cons hb.pe pa_nil hs4) hs3) hs hs2, ri_rng2 ha.rd hb.rd⟩
theorem i_zipT {p tp : Pos} {el : List Expr} {kk : Nat} (hm : X.mg "zip" = none) (ha : LE X a ta ga) (hb : LE X b tb gb) (hg : Gl X "zip" := by rfl) (hs : starEach [a, b] X.env = (false, eval a X.env) :: starEach [b] X.env := by rfl) (hs2 : starEach [b] X.env = (false, eval b X.env) :: starEach [] X.env := by rfl) (hpl : (backTo pos (starEach [b] X.env)).any (·.1) = false := by rfl) :
    LI X (.Tuple el kk tp) (.Call (.Name "zip" p) [a, b] [] pos) (RZ.iZipA X.K (tCons ta (tCons tb tNil))) (yZipT ga gb) := ⟨RZ.pi_zipA hg hm (pa_cons ha.pe (pa_cons hb.pe pa_nil hs2) hs) hs hpl, ri_zipT ha.rd hb.rd⟩
theorem i_en {p tp : Pos} {el : List Expr} {kk : Nat} (hm : X.mg "enumerate" = none) (ha : LE X a ta ga) (hg : Gl X "enumerate" := by rfl) (hs : starEach [a] X.env = [(false, eval a X.env)] := by rfl) (hs2 : starEach [a] X.env = (false, eval a X.env) :: starEach [] X.env := by rfl) :
    LI X (.Tuple el kk tp) (.Call (.Name "enumerate" p) [a] [] pos) (tEnumT X.K (tCons ta tNil)) (yEnum ga) := ⟨pi_enT hg hm (pa_cons ha.pe pa_nil hs2) hs, ri_en ha.rd⟩
/-! ### comprehensions -/
theorem q_nil : LQ X [] tYes xYes := ⟨pts_nil, rd_yes⟩
theorem q_one {c : Expr} (h : LT X c tt gt) : LQ X [c] tt gt := ⟨pts_one h.pe, h.rd⟩
/-- some state, to take a reading at -/
def s0 : Shared := ⟨⟨#[], {}⟩, #[], {}, 0, default⟩
variable {elt it : Expr} {ifs : List Expr} {scope : Scope} {own : List (Str × Nat)} {o1 : List Nat} {wi : TI} {gi : GI} {g : TG} {xg : GG} {te : TE} {ge : GE}
theorem e_lc (own : List (Str × Nat)) (hc : X.calm = true) (hN : X.N.Nodup) (hi : LI X tg it wi gi) (ok : blkC X.N X.env.scope scope own = true) (ho : ∀ j ∈ o1, j ∈ own.map (·.2))
    (hg : ∀ (s : Shared) (H : Hp) (C : Addr) (cl : List (Str × Addr)) (fp : List Addr), LG (X.blk s H scope (compEnvC scope cl C X.env) fp) o1 tg g xg) (ht : ∀ (s : Shared) (H : Hp) (C : Addr) (cl : List (Str × Addr)) (fp : List Addr), LQ (X.blk s H scope (compEnvC scope cl C X.env) fp) ifs tt gt)
    (he : ∀ (s : Shared) (H : Hp) (C : Addr) (cl : List (Str × Addr)) (fp : List Addr), LE (X.blk s H scope (compEnvC scope cl C X.env) fp) elt te ge) (hs : ∀ x, foldedSetIterable it X.env x = pure x := by exact fun _ => rfl) :
    LE X (.ListComp elt [⟨tg, it, ifs, 0⟩] scope pos) (tLc wi g tt te (own.map (·.2))) (xLc gi xg gt ge (own.map (·.2))) :=
  ⟨pe_lc hc hN hi.pe (blkOk_by ok) (fun s H C cl fp => (hg s H C cl fp).pe) (fun s H C cl fp => (ht s H C cl fp).pe) (fun s H C cl fp => (he s H C cl fp).pe) hs,
    rd_lc hi.rd (hg s0 (fun _ => none) 0 [] []).rd ho (ht s0 (fun _ => none) 0 [] []).rd (he s0 (fun _ => none) 0 [] []).rd⟩
theorem s_setLc (own : List (Str × Nat)) {i : Nat} {y : Str} {py spos : Pos} (hc : X.calm = true) (hN : X.N.Nodup) (hk : X.env.scope.kind = .function) (hi : LI X tg it wi gi) (ok : blkC X.N X.env.scope scope own = true) (ho : ∀ j ∈ o1, j ∈ own.map (·.2))
    (hg : ∀ (s : Shared) (H : Hp) (C : Addr) (cl : List (Str × Addr)) (fp : List Addr), LG (X.blk s H scope (compEnvC scope cl C X.env) fp) o1 tg g xg) (ht : ∀ (s : Shared) (H : Hp) (C : Addr) (cl : List (Str × Addr)) (fp : List Addr), LQ (X.blk s H scope (compEnvC scope cl C X.env) fp) ifs tt gt)
    (he : ∀ (s : Shared) (H : Hp) (C : Addr) (cl : List (Str × Addr)) (fp : List Addr), LE (X.blk s H scope (compEnvC scope cl C X.env) fp) elt te ge) (hs : ∀ x, foldedSetIterable it X.env x = pure x := by exact fun _ => rfl)
    (hy : X.N[i]? = some y := by rfl) (hyl : X.env.scope.names.lookup y = some .local := by rfl) (hl : (py.line == pos.line) = true := by rfl) (hz : (scope.names.any fun (n, k) => n == y && (k == .local || k == .cell)) = false := by decide +kernel) :
    LS X (.Assign [.Name y py] (.ListComp elt [⟨tg, it, ifs, 0⟩] scope pos) spos) (tAsg (tLc wi g tt te (own.map (·.2))) (L2.gName i)) (xAsg (xLc gi xg gt ge (own.map (·.2))) (xName i)) :=
  ⟨ps_setLc hc hN hy hyl (sw_true hk hyl hl hz) hi.pe (blkOk_by ok) (fun s H C cl fp => (hg s H C cl fp).pe) (fun s H C cl fp => (ht s H C cl fp).pe) (fun s H C cl fp => (he s H C cl fp).pe) hs,
    rs_asg (rd_lc hi.rd (hg s0 (fun _ => none) 0 [] []).rd ho (ht s0 (fun _ => none) 0 [] []).rd (he s0 (fun _ => none) 0 [] []).rd) rg_name⟩
/-! ### statements -/
variable {t u : TS} {gs hs' : GS}
theorem s_set (i : Nat) {x : Str} {px : Pos} (hN : X.N.Nodup) (ha : LE X a ta ga) (hi : X.N[i]? = some x := by rfl) (hx : Loc X.env.scope x := by first | exact Or.inl rfl | exact Or.inr rfl) (hs : swapsWith a (some (.Name x px)) pos.line X.env = pure false := by rfl) (hf : X.fn x = true ∨ X.env.scope.names.lookup x = some .local := by first | exact .inl rfl | exact .inr rfl) :
    LS X (.Assign [.Name x px] a pos) (tAsg ta (L2.gName i)) (xAsg ga (xName i)) := ⟨ps_set hN hi hx ha.pe hs hf, rs_asg ha.rd rg_name⟩
theorem s_asg {own : List Nat} {g : TG} {xg : GG} (ha : LE X a ta ga) (hg : LG X own tg g xg) (hs : swapsWithSole [tg] a pos.line X.env = pure false := by rfl) (hw : swappedStores [tg] a X.env = pure none := by rfl) (h1 : (assignEach [tg] X.env).map (·.2) = [assign tg X.env] := by rfl) : LS X (.Assign [tg] a pos) (tAsg ta g) (xAsg ga xg) := ⟨ps_asg ha.pe hg.pe hs hw h1, rs_asg ha.rd hg.rd⟩
theorem s_ret (ha : LE X a ta ga) : LS X (.Return (some a) pos) (tRet ta) (xRet ga) := ⟨ps_ret ha.pe, rs_ret ha.rd⟩
theorem s_if {c : Expr} {x y : List Stmt} (hc : LT X c tt gt) (ha : LSs X x t gs) (hb : LSs X y u hs') : LS X (.If c x y pos) (tIfS tt t u) (xIfS gt gs hs') := ⟨ps_if hc.pe ha.pe hb.pe, rs_if hc.rd ha.rd hb.rd⟩
theorem s_drop (ha : LE X a ta ga) (hs : swapsWith a none pos.line X.env = pure false := by rfl) : LS X (.Expr a pos) (tDrop ta) (xDrop ga) := ⟨ps_expr ha.pe hs, rs_drop ha.rd⟩
theorem s_brk : LS X (.Break pos) tBreak xBrk := ⟨ps_break, rs_brk⟩
theorem ss_never {x : List Stmt} : LSs X x tNever xNever := ⟨pss_never, rs_never⟩
theorem s_for {own : List Nat} {g : TG} {xg : GG} {x : List Stmt} (hp : PassesOwn (model X.prog X.w) X.A X.env X.xe) (hc : X.calm = true) (hi : LI X tg it wi gi) (hg : LG X own tg g xg) (hb : LSs X x t gs) (hs : ∀ x, foldedSetIterable it X.env x = pure x := by exact fun _ => rfl) : LS X (.For tg it x [] pos) (tFor wi g t) (xFor gi xg gs) := ⟨ps_for hp hc hi.pe hg.pe hb.pe hs, rs_for hi.rd hg.rd hb.rd⟩
theorem ss_nil : LSs X [] tNext xNext := ⟨pss_nil, rs_next⟩
theorem ss_one {s : Stmt} (h : LS X s t gs) : LSs X [s] t gs := ⟨pss_one h.pe, h.rd⟩
theorem ss_cons {s : Stmt} {r : List Stmt} (h : LS X s t gs) (hr : LSs X r u hs') : LSs X (s :: r) (tSeq t u) (xSeq gs hs') := ⟨pss_cons h.pe hr.pe, rs_seq h.rd hr.rd⟩
end

/-! ### a def -/
section
variable {P : Program} {w : World} {K : PySem.W.Frag} {mg : Str → Option Value} {base : Heap}
theorem sr_start {e : En} {H : Hp} {as : List A} {vs : List V} {N : List Str} (r : Reps K e H as vs) : SR K e H (startSS N.length as) (L2.start N vs) := by
  have hl := r.length
  refine ⟨by unfold startSS L2.start; simp [hl], fun i a h => ?_⟩
  unfold startSS at h
  by_cases hi : i < as.length
  · rw [List.getElem?_append_left (by simpa using hi), List.getElem?_map] at h
    obtain ⟨b, h1, h2⟩ := Option.map_eq_some_iff.mp h
    cases h2
    obtain ⟨v, h3, h4⟩ := r.get h1
    refine ⟨v, ?_, h4⟩
    unfold L2.start
    rw [List.getElem?_append_left (by simpa [← hl] using hi), List.getElem?_map, h3]
    rfl
  · rw [List.getElem?_append_right (by simpa using hi), List.getElem?_replicate] at h
    split at h <;> cases h
theorem xDef_len {n N : Nat} {g : GS} : ∀ as w r, xDef n N g as w = some r → as.length = n := fun as w r h => by
  unfold xDef at h
  split at h
  · assumption
  · cases h
theorem def_run {n : Nat} {N : List Str} {g : GS} {t : TS} (h : RdS K t g) {vs : List V} {H : Hp} {Q : VK} {E : XK} (sp : spG K n (xDef n N.length g) vs H Q E) : t { nx := fun _ H' => Q .non H', rt := Q } (L2.start N vs) H := by
  obtain ⟨hl, e, as, w, a, w', o, r, hg, q⟩ := sp
  unfold xDef at hg
  split at hg
  · generalize ho : g (startSS N.length as) w = out at hg
    cases out with
    | none => cases hg
    | some out =>
      refine h e _ _ H w out _ o (sr_start r) ho ?_
      cases out with
      | rt b w1 =>
        cases hg
        exact fun v H' x o' r' => q v H' x o' r'
      | nx ss1 w1 =>
        cases hg
        exact fun σ' H' x o' _ => q _ H' x o' rfl
      | bk ss1 w1 => cases hg
  · cases hg
/-- THE RULE: a def of the text -/
theorem has_of {x : Str} {params : Arguments} {body : List Stmt} {scope : Scope} {N ps : List Str} {k : Nat} {fa : Addr} {fd : FuncData} {g : GS} (hm : mg x = some (.ref fa)) (F : FunD K x x params body scope [] [] fa fd) (S : FnScope N ps scope)
    (hb : ∀ (kV doc pm : Value) (an : Option Addr) (cdv ct : Value) (us : List Value), us.length = ps.length → bindArgs (PySem.W.fnOf x x params body scope .none kV doc pm an cdv ct) ⟨us, []⟩ = pure (ps.zip us))
    (h : ∀ (cdv : Value) (A : Around) (outer : List Env) (s : Shared) (H : Hp) (E : XK), Room k (A.deeper (envOfC x scope s.heap.objs.size fa cdv)) → ∃ t, LSs (cxOf CX0 P w K mg base N x scope fa cdv A outer s H E).nox body t g) :
    Has P w K mg base x (k + 1) ps.length (xDef ps.length N.length g) := by
  refine ⟨⟨fa, fd, ps, hm, F.ok S (fun vs H Q E q => q.1) fun cdv A outer s H vs Q E hr hsp => ?_, F.kp, F.bindsN hb⟩, xDef_len⟩
  obtain ⟨t, ht⟩ := h cdv A outer s H E hr
  exact ⟨t, PSs.nox ht.pe, def_run ht.rd hsp⟩
theorem Has.mono {x : Str} {j k n : Nat} {f : GF} (h : Has P w K mg base x j n f) (hjk : j ≤ k) : Has P w K mg base x k n f := by
  obtain ⟨fa, fd, ps, h1, h2, h3, h4⟩ := h.ex
  exact ⟨⟨fa, fd, ps, h1, h2.mono hjk, h3, h4⟩, h.ar⟩
end
end Sp
/-! LAY 5: several targets at once; lists that are being changed. -/
namespace Sp
open PySem PySem.Spec PyProof.Rows L2
section
variable {K : PySem.W.Frag}
theorem rs_par2 {i j : Nat} {ta : TA} {ga : GA} (ha : RdA K ta ga) : RdS K (tPar i j ta) (xPar2 i j ga) := by
  intro e σ ss H w out D o s h k
  unfold xPar2 at h
  obtain ⟨⟨xs, w1⟩, h1, h⟩ := Option.bind_eq_some_iff.mp h
  dsimp only at h
  split at h
  · cases h
    refine ha e σ ss H w _ w1 o s h1 _ fun vs H1 x1 o1 r1 => ?_
    obtain ⟨v, u, rfl, r2, r3⟩ := reps2 r1
    exact ⟨v, u, rfl, k _ H1 x1 o1 (((o.sr x1 s).set r2).set r3)⟩
  · cases h
theorem rs_par3 {i j l : Nat} {ta : TA} {ga : GA} (ha : RdA K ta ga) : RdS K (tPar3 i j l ta) (xPar3 i j l ga) := by
  intro e σ ss H w out D o s h k
  unfold xPar3 at h
  obtain ⟨⟨xs, w1⟩, h1, h⟩ := Option.bind_eq_some_iff.mp h
  dsimp only at h
  split at h
  · cases h
    refine ha e σ ss H w _ w1 o s h1 _ fun vs H1 x1 o1 r1 => ?_
    obtain ⟨v, us, rfl, r2, r3⟩ := r1
    obtain ⟨u, z, rfl, r3, r4⟩ := reps2 r3
    exact ⟨v, u, z, rfl, k _ H1 x1 o1 ((((o.sr x1 s).set r2).set r3).set r4)⟩
  · cases h
end
section
variable {X : Cx} {pos : Pos} {a b d : Expr} {ta : TA} {ga : GA}
theorem s_par2 (i j : Nat) {x y : Str} {px py pt : Pos} {kt k2 : Nat} {pt2 : Pos} (hN : X.N.Nodup) (ha : LA X [a, b] ta ga) (hc : X.calm = true := by rfl) (hi : X.N[i]? = some x := by rfl) (hj : X.N[j]? = some y := by rfl) (hij : i ≠ j := by decide)
    (hx : X.env.scope.names.lookup x = some .local := by rfl) (hy : X.env.scope.names.lookup y = some .local := by rfl) (hw : swappedStores [.Tuple [.Name x px, .Name y py] kt pt] (.Tuple [a, b] k2 pt2) X.env = pure (some [x, y]) := by rfl)
    (hs : swapsWithSole [.Tuple [.Name x px, .Name y py] kt pt] (.Tuple [a, b] k2 pt2) pos.line X.env = pure false := by rfl) : LS X (.Assign [.Tuple [.Name x px, .Name y py] kt pt] (.Tuple [a, b] k2 pt2) pos) (tPar i j ta) (xPar2 i j ga) :=
  ⟨ps_par hc hN hi hj hij hx hy ha.pe hw hs, rs_par2 ha.rd⟩
theorem s_par3 (i j l : Nat) {x y z : Str} {px py pz pt : Pos} {kt k2 : Nat} {pt2 : Pos} (hN : X.N.Nodup) (ha : LA X [a, b, d] ta ga) (hc : X.calm = true := by rfl) (hi : X.N[i]? = some x := by rfl) (hj : X.N[j]? = some y := by rfl) (hl : X.N[l]? = some z := by rfl) (hij : i ≠ j := by decide) (hil : i ≠ l := by decide) (hjl : j ≠ l := by decide)
    (hx : X.env.scope.names.lookup x = some .local := by rfl) (hy : X.env.scope.names.lookup y = some .local := by rfl) (hz : X.env.scope.names.lookup z = some .local := by rfl) (hw : swappedStores [.Tuple [.Name x px, .Name y py, .Name z pz] kt pt] (.Tuple [a, b, d] k2 pt2) X.env = pure (some [x, y, z]) := by rfl)
    (hs : swapsWithSole [.Tuple [.Name x px, .Name y py, .Name z pz] kt pt] (.Tuple [a, b, d] k2 pt2) pos.line X.env = pure false := by rfl) : LS X (.Assign [.Tuple [.Name x px, .Name y py, .Name z pz] kt pt] (.Tuple [a, b, d] k2 pt2) pos) (tPar3 i j l ta) (xPar3 i j l ga) :=
  ⟨ps_par3 hc hN hi hj hl hij hil hjl hx hy hz ha.pe hw hs, rs_par3 ha.rd⟩
end
end Sp
/-! LAY 6: lists that are being changed. -/
namespace Sp
open PySem PySem.Spec PyProof.Rows L2
section
variable {K : PySem.W.Frag} {e e' : En} {H H' : Hp} {w w' : W}
mutual
/-- more cells, more that is not to be read -/
theorem Rep.into (hw : ∀ (m : Nat) q, e.ws[m]? = some q → e'.ws[m]? = some q) (m : ∀ p, e'.M p → e.M p ∨ H p = none) : ∀ (a : A) (v : V), Rep K e H a v → Rep K e' H a v
  | .non, _, h => h
  | .bl _, _, h => h
  | .int _, _, h => h
  | .str _, _, h => h
  | .txt _, _, h => h
  | .cell _, _, h => by
    obtain ⟨p, h1, h2⟩ := h
    exact ⟨p, hw _ _ h1, h2⟩
  | .tup xs, v, h => by
    obtain ⟨p, vs, e1, h1, h2⟩ := h
    refine ⟨p, vs, e1, ?_, Reps.into hw m xs vs h2⟩
    rcases h1 with ⟨n, r⟩ | r
    · refine .inl ⟨fun z => ?_, r⟩
      rcases m p z with q | q
      · exact n q
      · rcases r with r | ⟨_, r⟩ <;> (rw [q] at r; cases r)
    · exact .inr r
  | .lst xs, v, h => by
    obtain ⟨p, vs, e1, ⟨n, r⟩, h2⟩ := h
    refine ⟨p, vs, e1, ⟨fun z => ?_, r⟩, Reps.into hw m xs vs h2⟩
    rcases m p z with q | q
    · exact n q
    · rw [q] at r
      cases r
  | .ins lo up le, v, h => by
    obtain ⟨p, dx, v1, v2, v3, e1, ⟨n, r⟩, h1, h2, h3⟩ := h
    refine ⟨p, dx, v1, v2, v3, e1, ⟨fun z => ?_, r⟩, Rep.into hw m lo v1 h1, Rep.into hw m up v2 h2, Rep.into hw m le v3 h3⟩
    rcases m p z with q | q
    · exact n q
    · rw [q] at r
      cases r
theorem Reps.into (hw : ∀ (m : Nat) q, e.ws[m]? = some q → e'.ws[m]? = some q) (m : ∀ p, e'.M p → e.M p ∨ H p = none) : ∀ (xs : List A) (vs : List V), Reps K e H xs vs → Reps K e' H xs vs
  | [], _, h => h
  | a :: xs, vs, h => by
    obtain ⟨u, us, e1, h1, h2⟩ := h
    exact ⟨u, us, e1, Rep.into hw m a u h1, Reps.into hw m xs us h2⟩
end
mutual
/-- out of it: no cells within -/
theorem Rep.out (m : ∀ p, e.M p → e'.M p) : ∀ (a : A) (v : V), A.noCell a = true → Rep K e' H a v → Rep K e H a v
  | .non, _, _, h => h
  | .bl _, _, _, h => h
  | .int _, _, _, h => h
  | .str _, _, _, h => h
  | .txt _, _, _, h => h
  | .cell _, _, c, _ => by cases c
  | .tup xs, v, c, h => by
    obtain ⟨p, vs, e1, h1, h2⟩ := h
    refine ⟨p, vs, e1, ?_, Reps.out m xs vs c h2⟩
    rcases h1 with ⟨n, r⟩ | r
    · exact .inl ⟨fun z => n (m p z), r⟩
    · exact .inr r
  | .lst xs, v, c, h => by
    obtain ⟨p, vs, e1, ⟨n, r⟩, h2⟩ := h
    exact ⟨p, vs, e1, ⟨fun z => n (m p z), r⟩, Reps.out m xs vs c h2⟩
  | .ins lo up le, v, c, h => by
    obtain ⟨p, dx, v1, v2, v3, e1, ⟨n, r⟩, h1, h2, h3⟩ := h
    obtain ⟨c1, c3⟩ := Bool.and_eq_true_iff.mp c
    obtain ⟨c1, c2⟩ := Bool.and_eq_true_iff.mp c1
    exact ⟨p, dx, v1, v2, v3, e1, ⟨fun z => n (m p z), r⟩, Rep.out m lo v1 c1 h1, Rep.out m up v2 c2 h2, Rep.out m le v3 c3 h3⟩
theorem Reps.out (m : ∀ p, e.M p → e'.M p) : ∀ (xs : List A) (vs : List V), A.noCells xs = true → Reps K e' H xs vs → Reps K e H xs vs
  | [], _, _, h => h
  | a :: xs, vs, c, h => by
    obtain ⟨u, us, e1, h1, h2⟩ := h
    obtain ⟨c1, c2⟩ := Bool.and_eq_true_iff.mp c
    exact ⟨u, us, e1, Rep.out m a u c1 h1, Reps.out m xs us c2 h2⟩
end
/-- with one cell more -/
def withC (e : En) (p : Addr) : En := ⟨e.ws ++ [p], fun q => e.M q ∨ q = p⟩
theorem withC_into {p : Addr} (hp : H p = none) : (∀ (m : Nat) q, e.ws[m]? = some q → (withC e p).ws[m]? = some q) ∧ (∀ q, (withC e p).M q → e.M q ∨ H q = none) := by
  refine ⟨fun m q h => ?_, fun q h => ?_⟩
  · show (e.ws ++ [p])[m]? = some q
    rw [List.getElem?_append_left (List.getElem?_eq_some_iff.mp h).1]
    exact h
  · rcases h with h | h
    · exact .inl h
    · exact .inr (by rw [h]; exact hp)
theorem Rep.intoC {p : Addr} {a : A} {v : V} (o : Ok K e H w) (hp : H p = none) {u : HO} (h : Rep K e H a v) : Rep K (withC e p) (upd H p u) a v := by
  obtain ⟨h1, h2⟩ := withC_into (e := e) hp
  have h3 := Rep.into (e' := withC e p) h1 h2 a v h
  exact Rep.less (e := withC e p) (M2 := (withC e p).M) (fun _ z => z) (fun b x n z => by
    rw [upd_ne (fun q => n (.inr q))]
    exact z) a v h3
theorem Reps.intoC {p : Addr} {a : List A} {v : List V} (o : Ok K e H w) (hp : H p = none) {u : HO} (h : Reps K e H a v) : Reps K (withC e p) (upd H p u) a v := by
  obtain ⟨h1, h2⟩ := withC_into (e := e) hp
  have h3 := Reps.into (e' := withC e p) h1 h2 a v h
  exact Reps.less (e := withC e p) (M2 := (withC e p).M) (fun _ z => z) (fun b x n z => by
    rw [upd_ne (fun q => n (.inr q))]
    exact z) a v h3
theorem SR.intoC {p : Addr} {ss : SS} {σ : L2.St} (o : Ok K e H w) (hp : H p = none) {u : HO} (s : SR K e H ss σ) : SR K (withC e p) (upd H p u) ss σ := ⟨s.1, fun i a q => by
  obtain ⟨v, h1, h2⟩ := s.2 i a q
  exact ⟨v, h1, h2.intoC o hp⟩⟩
/-- a new list is a cell from now on -/
theorem Ok.intoC {p : Addr} {xs : List A} {vs : List V} (o : Ok K e H w) (hp : H p = none) (r : Reps K e H xs vs) : Ok K (withC e p) (upd H p (.lst vs)) (w ++ [xs]) := by
  have np : p ∉ e.ws := fun z => o.live p (o.sub p z) hp
  refine ⟨fun q hq => ?_, fun q hq => ?_, ?_, ?_, fun n q ys h1 h2 => ?_⟩
  · rcases List.mem_append.mp hq with z | z
    · exact .inl (o.sub q z)
    · exact .inr (List.mem_singleton.mp z)
  · by_cases hqp : q = p
    · rw [hqp, upd_same]
      exact fun z => nomatch z
    · rw [upd_ne hqp]
      rcases hq with z | z
      · exact o.live q z
      · exact absurd z hqp
  · show (e.ws ++ [p]).length = (w ++ [xs]).length
    rw [List.length_append, List.length_append, o.len]
    rfl
  · show (e.ws ++ [p]).Nodup
    rw [List.nodup_append]
    refine ⟨o.nod, List.nodup_cons.mpr ⟨List.not_mem_nil, List.nodup_nil⟩, fun a ha b hb => ?_⟩
    rw [List.mem_singleton.mp hb]
    exact fun z => np (by rw [← z]; exact ha)
  · have h1' : (e.ws ++ [p])[n]? = some q := h1
    by_cases hn : n < e.ws.length
    · rw [List.getElem?_append_left hn] at h1'
      rw [List.getElem?_append_left (by rw [← o.len]; exact hn)] at h2
      obtain ⟨us, h3, h4⟩ := o.cel n q ys h1' h2
      have hqp : q ≠ p := fun z => np (by rw [← z]; exact List.mem_of_getElem? h1')
      exact ⟨us, by rw [upd_ne hqp]; exact h3, h4.intoC o hp⟩
    · rw [List.getElem?_append_right (by omega)] at h1'
      rw [List.getElem?_append_right (by rw [← o.len]; omega), ← o.len] at h2
      have hz : n - e.ws.length = 0 := by
        have := (List.getElem?_eq_some_iff.mp h1').1
        simp at this
        omega
      rw [hz] at h1' h2
      cases h1'
      cases h2
      exact ⟨vs, upd_same, r.intoC o hp⟩
/-- what holds behind the def's rows holds without its own lists -/
theorem fin_ok {D : Ends} {out1 out : Out} {ps : List Addr} (o : Ok K e H w) (hw : e'.ws = e.ws ++ ps) (hM : ∀ q, e.M q → e'.M q) (hf : ∀ p ∈ ps, H p = none) (st : Xt e H H') (hfin : xFin w.length out1 = some out) (k : OutOk K e H D out) (hps : ∀ p ∈ ps, e'.M p) : OutOk K e' H' D out1 := by
  have leave : ∀ {H2 : Hp} {w2 : W}, Xt e' H' H2 → Ok K e' H2 w2 → A.plain (w2.take w.length) = true → Xt e H H2 ∧ Ok K e H2 (w2.take w.length) := by
    intro H2 w2 x2 o2 pl
    refine ⟨fun b u n q => ?_, fun p hp => o.sub p hp, fun p hp => o2.live p (hM p hp), ?_, o.nod, fun n p xs h1 h2 => ?_⟩
    · refine x2 b u (fun z => ?_) (st b u n q)
      rw [hw] at z
      rcases List.mem_append.mp z with z | z
      · exact n z
      · rw [hf b z] at q
        cases q
    · have := o2.len
      rw [hw, List.length_append] at this
      rw [List.length_take, ← this, ← o.len]
      omega
    · have hn : n < w.length := by
        rw [← o.len]
        exact (List.getElem?_eq_some_iff.mp h1).1
      rw [List.getElem?_take_of_lt hn] at h2
      have h3 : e'.ws[n]? = some p := by
        rw [hw, List.getElem?_append_left (by rw [o.len]; exact hn)]
        exact h1
      obtain ⟨vs, h4, h5⟩ := o2.cel n p xs h3 h2
      refine ⟨vs, h4, Reps.out hM xs vs ?_ h5⟩
      refine List.all_eq_true.mp pl xs ?_
      rw [List.mem_take_iff_getElem]
      obtain ⟨hl, e1⟩ := List.getElem?_eq_some_iff.mp h2
      exact ⟨n, by omega, e1⟩
  cases out1 with
  | nx ss1 w1 => cases hfin
  | bk ss1 w1 => cases hfin
  | rt a w2 =>
    intro v H2 x2 o2 r2
    cases a with
    | cell m =>
      unfold xFin at hfin
      dsimp only at hfin
      split at hfin
      · rename_i hm
        obtain ⟨xs, h1, h2⟩ := Option.bind_eq_some_iff.mp hfin
        split at h2
        · rename_i hc
          cases h2
          obtain ⟨c1, c2⟩ := Bool.and_eq_true_iff.mp hc
          obtain ⟨xx, oo⟩ := leave x2 o2 c2
          obtain ⟨p, h3, rfl⟩ := r2
          obtain ⟨vs, h4, h5⟩ := o2.cel m p xs h3 h1
          have hp : p ∈ ps := by
            rw [hw, List.getElem?_append_right (by rw [o.len]; exact hm)] at h3
            exact List.mem_of_getElem? h3
          exact k _ H2 xx oo ⟨p, vs, rfl, ⟨fun z => o.live p z (hf p hp), h4⟩, Reps.out hM xs vs c1 h5⟩
        · cases h2
      · cases hfin
    | _ =>
      unfold xFin at hfin
      dsimp only at hfin
      split at hfin
      · rename_i hc
        cases hfin
        obtain ⟨c1, c2⟩ := Bool.and_eq_true_iff.mp hc
        obtain ⟨xx, oo⟩ := leave x2 o2 c2
        exact k _ H2 xx oo (Rep.out hM _ v c1 r2)
      · cases hfin
theorem cell_last (e : En) (p : Addr) {w : W} (o : e.ws.length = w.length) : Rep K (withC e p) H (.cell w.length) (.ref p) := by
  refine ⟨p, ?_, rfl⟩
  show (e.ws ++ [p])[w.length]? = some p
  rw [List.getElem?_append_right (by omega), ← o, Nat.sub_self]
  rfl
theorem rs_alloc {i : Nat} {t : TS} {g : GS} (h : RdS K t g) : RdS K (tSeq (tAsg (tLst tNil) (L2.gName i)) t) (xAlloc i g) := by
  intro e σ ss H w out D o s hg k
  unfold xAlloc at hg
  obtain ⟨out1, h1, h2⟩ := Option.bind_eq_some_iff.mp hg
  refine ⟨Nat.zero_le _, fun p hp => ?_⟩
  have o2 : Ok K (withC e p) (upd H p (.lst [])) (w ++ [[]]) := o.intoC hp rfl
  have s2 := (SR.intoC (u := .lst []) o hp s).set (i := i) (cell_last (K := K) (H := upd H p (.lst [])) e p o.len)
  exact h (withC e p) _ _ _ _ out1 D o2 s2 h1 (fin_ok (ps := [p]) o rfl (fun q z => .inl z) (fun q z => by rw [List.mem_singleton.mp z]; exact hp) (Xt.new hp) h2 k fun q z => .inr (List.mem_singleton.mp z))
theorem rs_alloc2 {i j : Nat} {te : TE} {ge : GE} {t : TS} {g : GS} (he : RdE K te ge) (h : RdS K t g) : RdS K (tSeq (tPar i j (tCons (tLst tNil) (tCons te tNil))) t) (xAlloc2 i j ge g) := by
  intro e σ ss H w out D o s hg k
  unfold xAlloc2 at hg
  obtain ⟨⟨a, w1⟩, h0, hg⟩ := Option.bind_eq_some_iff.mp hg
  obtain ⟨out1, h1, h2⟩ := Option.bind_eq_some_iff.mp hg
  refine ⟨Nat.zero_le _, fun p hp => ?_⟩
  have o2 : Ok K (withC e p) (upd H p (.lst [])) (w ++ [[]]) := o.intoC hp rfl
  have s2 := SR.intoC (u := .lst []) o hp s
  refine he (withC e p) σ ss _ _ a w1 o2 s2 h0 _ fun v H1 x1 o1 r1 => ?_
  refine ⟨_, _, rfl, ?_⟩
  have s3 := (o2.sr x1 s2).set (i := i) (cell_last (K := K) (H := H1) e p o.len)
  refine h (withC e p) _ _ _ _ out1 D o1 (s3.set r1) h1 (fin_ok (ps := [p]) o rfl (fun q z => .inl z) (fun q z => by rw [List.mem_singleton.mp z]; exact hp) ?_ h2 k fun q z => .inr (List.mem_singleton.mp z))
  intro b u n q
  have nb : b ≠ p := fun z => by
    rw [z, hp] at q
    cases q
  refine x1 b u (fun z => ?_) (by rw [upd_ne nb]; exact q)
  rcases List.mem_append.mp z with z | z
  · exact n z
  · exact nb (List.mem_singleton.mp z)
theorem rs_alloc3 {i j l : Nat} {ta : TA} {ga : GA} {t : TS} {g : GS} (ha : RdA K ta ga) (h : RdS K t g) : RdS K (tSeq (tPar3 i j l (tCons (tLst ta) (tCons (tLst tNil) (tCons (tLst tNil) tNil)))) t) (xAlloc3 i j l ga g) := by
  intro e σ ss H0 w0 out D o0 s0 hg k
  unfold xAlloc3 at hg
  obtain ⟨⟨xs, w⟩, h0, hg⟩ := Option.bind_eq_some_iff.mp hg
  dsimp only at hg
  split at hg
  · rename_i hsm
    obtain ⟨out1, h1, h2⟩ := Option.bind_eq_some_iff.mp hg
    refine ha e σ ss H0 w0 xs w o0 s0 h0 _ fun vs H x0 o r0 => ?_
    have s := o0.sr x0 s0
    refine ⟨by rw [← r0.length]; exact ok_small hsm, fun p hp => ⟨Nat.zero_le _, fun p2 hp2 => ⟨Nat.zero_le _, fun p3 hp3 => ⟨_, _, _, rfl, ?_⟩⟩⟩⟩
    have o1 : Ok K (withC e p) (upd H p (.lst vs)) (w ++ [xs]) := o.intoC hp r0
    have o2 : Ok K (withC (withC e p) p2) (upd (upd H p (.lst vs)) p2 (.lst [])) ((w ++ [xs]) ++ [[]]) := o1.intoC hp2 rfl
    have o3 : Ok K (withC (withC (withC e p) p2) p3) (upd (upd (upd H p (.lst vs)) p2 (.lst [])) p3 (.lst [])) (((w ++ [xs]) ++ [[]]) ++ [[]]) := o2.intoC hp3 rfl
    have s3 := SR.intoC (u := .lst []) o2 hp3 (SR.intoC (u := .lst []) o1 hp2 (SR.intoC (u := .lst vs) o hp s))
    have hl := o.len
    have c1 : Rep K (withC (withC (withC e p) p2) p3) (upd (upd (upd H p (.lst vs)) p2 (.lst [])) p3 (.lst [])) (.cell w.length) (.ref p) := by
      refine ⟨p, ?_, rfl⟩
      show (((e.ws ++ [p]) ++ [p2]) ++ [p3])[w.length]? = some p
      simp [← hl]
    have c2 : Rep K (withC (withC (withC e p) p2) p3) (upd (upd (upd H p (.lst vs)) p2 (.lst [])) p3 (.lst [])) (.cell (w.length + 1)) (.ref p2) := by
      refine ⟨p2, ?_, rfl⟩
      show (((e.ws ++ [p]) ++ [p2]) ++ [p3])[w.length + 1]? = some p2
      simp [← hl]
    have c3 : Rep K (withC (withC (withC e p) p2) p3) (upd (upd (upd H p (.lst vs)) p2 (.lst [])) p3 (.lst [])) (.cell (w.length + 2)) (.ref p3) := by
      refine ⟨p3, ?_, rfl⟩
      show (((e.ws ++ [p]) ++ [p2]) ++ [p3])[w.length + 2]? = some p3
      simp [← hl]
    have ew : ((w ++ [xs]) ++ [[]]) ++ [[]] = w ++ [xs, [], []] := by simp
    rw [ew] at o3
    have n12 : p2 ≠ p := fun z => by
      rw [z, upd_same] at hp2
      cases hp2
    have f2 : H p2 = none := by
      rw [upd_ne n12] at hp2
      exact hp2
    have n31 : p3 ≠ p2 := fun z => by
      rw [z, upd_same] at hp3
      cases hp3
    have f3 : H p3 = none := by
      rw [upd_ne n31] at hp3
      by_cases z : p3 = p
      · rw [z, upd_same] at hp3
        cases hp3
      · rw [upd_ne z] at hp3
        exact hp3
    refine h _ _ _ _ _ out1 D o3 (((s3.set c1).set c2).set c3) h1 (fin_ok (ps := [p, p2, p3]) (D := D) o ?_ (fun q z => .inl (.inl (.inl z))) (fun q z => ?_) ?_ h2 (k.on x0) fun q z => ?_)
    · show ((e.ws ++ [p]) ++ [p2]) ++ [p3] = e.ws ++ [p, p2, p3]
      simp
    · rcases List.mem_cons.mp z with rfl | z
      · exact hp
      · rcases List.mem_cons.mp z with rfl | z
        · exact f2
        · rw [List.mem_singleton.mp z]
          exact f3
    · intro b u n q
      rw [upd_ne (ne_of_none q f3), upd_ne (ne_of_none q f2), upd_ne (ne_of_none q hp)]
      exact q
    · rcases List.mem_cons.mp z with rfl | z
      · exact .inl (.inl (.inr rfl))
      · rcases List.mem_cons.mp z with rfl | z
        · exact .inl (.inr rfl)
        · exact .inr (List.mem_singleton.mp z)
  · cases hg
/-- the list of a cell is written -/
theorem Ok.setC {n : Nat} {p : Addr} {ys : List A} {us : List V} (o : Ok K e H w) (hp : e.ws[n]? = some p) (r : Reps K e H ys us) : Ok K e (upd H p (.lst us)) (w.set n ys) ∧ Xt e H (upd H p (.lst us)) := by
  have mp : p ∈ e.ws := List.mem_of_getElem? hp
  have st : ∀ a u, ¬ e.M a → H a = some u → (upd H p (.lst us)) a = some u := fun a u na q => by
    rw [upd_ne (fun z => na (by rw [z]; exact o.sub p mp))]
    exact q
  refine ⟨⟨o.sub, fun q hq => ?_, by rw [List.length_set]; exact o.len, o.nod, fun m q xs h1 h2 => ?_⟩, fun a u na q => ?_⟩
  · by_cases z : q = p
    · rw [z, upd_same]
      exact fun z => nomatch z
    · rw [upd_ne z]
      exact o.live q hq
  · by_cases hm : m = n
    · subst hm
      rw [hp] at h1
      cases h1
      have hl : m < w.length := by
        rw [← o.len]
        exact (List.getElem?_eq_some_iff.mp hp).1
      rw [List.getElem?_set_self hl] at h2
      cases h2
      exact ⟨us, upd_same, Reps.less (e := e) (M2 := e.M) (fun _ z => z) st _ _ r⟩
    · rw [List.getElem?_set_ne (Ne.symm hm)] at h2
      obtain ⟨vs, h3, h4⟩ := o.cel m q xs h1 h2
      have hqp : q ≠ p := fun z => by
        subst z
        obtain ⟨l1, e1⟩ := List.getElem?_eq_some_iff.mp h1
        obtain ⟨l2, e2⟩ := List.getElem?_eq_some_iff.mp hp
        exact hm ((List.getElem_inj o.nod).mp (e1.trans e2.symm))
      exact ⟨vs, by rw [upd_ne hqp]; exact h3, Reps.less (e := e) (M2 := e.M) (fun _ z => z) st _ _ h4⟩
  · rw [upd_ne (fun z => na (by rw [z]; exact mp))]
    exact q
theorem SR.setC {n : Nat} {p : Addr} {us : List V} {ss : SS} {σ : L2.St} (o : Ok K e H w) (hp : e.ws[n]? = some p) (s : SR K e H ss σ) : SR K e (upd H p (.lst us)) ss σ := ⟨s.1, fun i a q => by
  obtain ⟨v, h1, h2⟩ := s.2 i a q
  refine ⟨v, h1, Rep.less (e := e) (M2 := e.M) (fun _ z => z) (fun a u na q => ?_) a v h2⟩
  rw [upd_ne (fun z => na (by rw [z]; exact o.sub p (List.mem_of_getElem? hp)))]
  exact q⟩
theorem rs_app {i : Nat} {te : TE} {ge : GE} (he : RdE K te ge) : RdS K (tDrop (tBM K "list" rAppend (tVar i) (tCons te tNil))) (xApp i ge) := by
  intro e σ ss H w out D o s h k
  unfold xApp at h
  split at h
  · rename_i n hn
    obtain ⟨⟨a, w1⟩, h1, h⟩ := Option.bind_eq_some_iff.mp h
    obtain ⟨xs, h2, h⟩ := Option.bind_eq_some_iff.mp h
    split at h
    · rename_i hsm
      cases h
      obtain ⟨v, h3, p, h4, rfl⟩ := s.2 i _ hn
      refine ⟨.ref p, h3, ?_⟩
      have hlt : n < w.length := by
        rw [← o.len]
        exact (List.getElem?_eq_some_iff.mp h4).1
      obtain ⟨vs0, h5, _⟩ := o.cel n p _ h4 (List.getElem?_eq_getElem hlt)
      refine ⟨.inl ⟨rfl, vs0, SqL.of h5⟩, he e σ ss H w a w1 o s h1 _ fun u H1 x1 o1 r1 => ?_⟩
      obtain ⟨vs, h6, h7⟩ := o1.cel n p xs h4 h2
      refine ⟨p, vs, u, rfl, rfl, h6, by rw [← h7.length]; exact ok_small' hsm, ?_⟩
      obtain ⟨o2, x2⟩ := o1.setC h4 (reps_snoc h7 r1)
      exact k _ _ (x1.trans x2) o2 ((o.sr x1 s).setC o1 h4)
    · cases h
  · cases h
theorem rs_setC {i : Nat} {tk te : TE} {gk ge : GE} (hk : RdE K tk gk) (he : RdE K te ge) : RdS K (tAsg te (gSub (tVar i) tk rSetL)) (xSetC i gk ge) := by
  intro e σ ss H w out D o s h k
  unfold xSetC at h
  split at h
  · rename_i n hn
    obtain ⟨⟨a, w1⟩, h1, h⟩ := Option.bind_eq_some_iff.mp h
    obtain ⟨⟨b, w2⟩, h2, h⟩ := Option.bind_eq_some_iff.mp h
    dsimp only at h
    split at h
    · rename_i _ z
      obtain ⟨xs, h3, h⟩ := Option.bind_eq_some_iff.mp h
      refine he e σ ss H w a w1 o s h1 _ fun u H1 x1 o1 r1 => ?_
      obtain ⟨v, h4, p, h5, rfl⟩ := s.2 i _ hn
      refine ⟨.ref p, h4, ?_⟩
      refine hk e σ ss H1 w1 _ w2 o1 (o.sr x1 s) h2 _ fun kv H2 x2 o2 r2 => ?_
      cases (show kv = _ from r2)
      obtain ⟨vs, h6, h7⟩ := o2.cel n p xs h5 h3
      have hl := h7.length
      split at h
      · rename_i hz
        cases h
        obtain ⟨o3, x3⟩ := o2.setC h5 (h7.set z.toNat (o1.rep x2 r1))
        refine ⟨p, vs, z, z.toNat, rfl, rfl, h6, ?_, k _ _ (x1.trans (x2.trans x3)) o3 ((o.sr (x1.trans x2) s).setC o2 h5)⟩
        unfold ixN
        rw [if_pos hz.1, if_pos (by omega)]
      · split at h
        · rename_i hz
          cases h
          obtain ⟨o3, x3⟩ := o2.setC h5 (h7.set (z + xs.length).toNat (o1.rep x2 r1))
          refine ⟨p, vs, z, (z + xs.length).toNat, rfl, rfl, h6, ?_, k _ _ (x1.trans (x2.trans x3)) o3 ((o.sr (x1.trans x2) s).setC o2 h5)⟩
          unfold ixN
          rw [if_neg (by omega), if_pos (by omega), hl]
        · cases h
    · cases h
  · cases h
theorem rt_neNil {i : Nat} : RdT K (tTest (tOp (rNeX K) (tVar i) (tLst tNil))) (xNeNil i) := by
  intro e σ ss H w b w' o s h Q q
  unfold xNeNil at h
  split at h
  · rename_i n hn
    obtain ⟨xs, h1, h⟩ := Option.bind_eq_some_iff.mp h
    split at h
    · rename_i hd
      cases h
      obtain ⟨v, h2, p, h3, rfl⟩ := s.2 i _ hn
      obtain ⟨vs, h4, h5⟩ := o.cel n p xs h3 h1
      refine ⟨.ref p, h2, Nat.zero_le _, fun l hl => .inl ⟨.list (A.toDs xs), .list [], ?_, ?_, ?_, rfl, _, rfl, ?_⟩⟩
      · have x1 : Xt e H (upd H l (.lst [])) := Xt.new hl
        refine .lst (SqL.of ?_) (reps_dp 39 xs vs hd (o.reps x1 h5))
        rw [upd_ne (ne_of_none h4 hl)]
        exact h4
      · exact .lst (SqL.of upd_same) .nil
      · exact shaped_of (a := .lst xs) hd
      · have e1 : (!PyData.eqv (.list (A.toDs xs)) (.list [])) = !xs.isEmpty := by
          cases xs <;> rfl
        rw [e1]
        exact q _ (Xt.new hl) (o.new hl)
    · cases h
  · cases h
theorem rd_tupC {i : Nat} : RdE K (tCB (rTupleX K) (tCons (tVar i) tNil)) (xTupC i) := by
  intro e σ ss H w a w' o s h Q q
  unfold xTupC at h
  split at h
  · rename_i n hn
    obtain ⟨xs, h1, h⟩ := Option.map_eq_some_iff.mp h
    cases h
    obtain ⟨v, h2, p, h3, rfl⟩ := s.2 i _ hn
    obtain ⟨vs, h4, h5⟩ := o.cel n p xs h3 h1
    exact ⟨.ref p, h2, p, vs, rfl, .inl ⟨SqL.of h4, fun l hl => q.tup o h5 hl⟩⟩
  · cases h
theorem rs_forC {i : Nat} {own : List Nat} {g : TG} {xg : GG} {tb : TS} {gb : GS} (hg : RdG K own g xg) (hb : RdS K tb gb) : RdS K (tFor (L2.iList K (tVar i)) g tb) (xForC i xg gb) := by
  intro e σ ss H w out D o s h k
  unfold xForC at h
  split at h
  · rename_i n hn
    obtain ⟨xs, h1, h⟩ := Option.bind_eq_some_iff.mp h
    obtain ⟨v, h2, p, h3, rfl⟩ := s.2 i _ hn
    obtain ⟨vs, h4, h5⟩ := o.cel n p xs h3 h1
    refine ⟨.ref p, h2, p, rfl, ⟨vs, SqL.of h4⟩, ?_⟩
    refine ⟨fun j m σ2 H2 => m = xs.length - j ∧ j ≤ xs.length ∧ ∃ ss2 w2, Xt e H H2 ∧ Ok K e H2 w2 ∧ SR K e H2 ss2 σ2 ∧ forLoopC n xs xg gb (xs.drop j) ss2 w2 = some out, ⟨xs.length, by simp, Nat.zero_le _, ss, w, Xt.refl, o, s, h⟩, ?_⟩
    rintro j m σ2 H2 ⟨rfl, hj, ss2, w2, x2, o2, s2, lo⟩
    by_cases hlt : j < xs.length
    · have edrop : xs.drop j = xs[j] :: xs.drop (j + 1) := List.drop_eq_getElem_cons hlt
      rw [edrop] at lo
      unfold forLoopC at lo
      split at lo
      · rename_i hw
        obtain ⟨vs2, h6, h7⟩ := o2.cel n p xs h3 hw
        obtain ⟨u, h8, h9⟩ := h7.get (List.getElem?_eq_getElem hlt)
        obtain ⟨ss3, l3, lo⟩ := Option.bind_eq_some_iff.mp lo
        obtain ⟨o5, l4, lo⟩ := Option.bind_eq_some_iff.mp lo
        refine .inr ⟨⟨vs2, u, SqL.of h6, h8⟩, fun σ3 H3 => j + 1 ≤ xs.length ∧ ∃ ss2 w2, Xt e H H3 ∧ Ok K e H3 w2 ∧ SR K e H3 ss2 σ3 ∧ forLoopC n xs xg gb (xs.drop (j + 1)) ss2 w2 = some out, fun σ3 H3 hN => ⟨xs.length - (j + 1), by omega, rfl, hN⟩, fun x H3 hy => ?_⟩
        obtain ⟨rfl, hy⟩ := hy
        have ex := hy vs2 (SqL.of h6)
        rw [h8] at ex
        cases ex
        refine hg e σ2 ss2 H3 w2 _ u ss3 o2 s2 h9 l3 _ fun σ4 s4 _ => ?_
        refine hb e σ4 ss3 H3 w2 o5 _ o2 s4 l4 ?_
        cases o5 with
        | nx ss4 w4 => exact fun σ5 H5 x5 o6 s5 => ⟨hlt, ss4, w4, x2.trans x5, o6, s5, lo⟩
        | rt b w4 =>
          have lo2 : some (Out.rt b w4) = some out := lo
          cases lo2
          exact k.on x2
        | bk ss4 w4 =>
          have lo2 : some (Out.nx ss4 w4) = some out := lo
          cases lo2
          exact fun σ5 H5 x5 o6 s5 => k σ5 H5 (x2.trans x5) o6 s5
      · cases lo
    · have e1 : j = xs.length := by omega
      subst e1
      rw [List.drop_length] at lo
      unfold forLoopC at lo
      split at lo
      · rename_i hw
        cases lo
        obtain ⟨vs2, h6, h7⟩ := o2.cel n p xs h3 hw
        exact .inl ⟨⟨vs2, SqL.of h6, by rw [h7.length]; exact Nat.le_refl _⟩, k σ2 H2 x2 o2 s2⟩
      · cases lo
  · cases h
def rDivm : List V → Hp → VK → Prop := fun xs H Q => ∃ i j, xs = [.int i, .int j] ∧ CDiv i j ∧ ∀ p, H p = none → Q (.ref p) (upd H p (.tup [.int (i / j), .int (i % j)]))
theorem rs_divC {i k j : Nat} {ta tb : TE} {ga gb : GE} (ha : RdE K ta ga) (hb : RdE K tb gb) : RdS K (tAsg (tCB rDivm (tCons ta (tCons tb tNil))) (L2.gTup K 2 (gCons (gSub (tVar i) (tC (.int (k : Nat))) rSetL) (gCons (L2.gName j) gNil)))) (xDivC i k j ga gb) := by
  intro e σ ss H w out D o s h kk
  unfold xDivC at h
  split at h
  · rename_i n hn
    obtain ⟨⟨a, w1⟩, h1, h⟩ := Option.bind_eq_some_iff.mp h
    obtain ⟨⟨b, w2⟩, h2, h⟩ := Option.bind_eq_some_iff.mp h
    refine ha e σ ss H w a w1 o s h1 _ fun v1 H1 x1 o1 r1 => ?_
    refine hb e σ ss H1 w1 b w2 o1 (o.sr x1 s) h2 _ fun v2 H2 x2 o2 r2 => ?_
    dsimp only at h
    split at h
    · rename_i a b _
      split at h
      · rename_i hc
        have hc2 := sure_iff.mp hc
        obtain ⟨xs, h3, h⟩ := Option.bind_eq_some_iff.mp h
        split at h
        · rename_i hk
          cases h
          cases (show v1 = _ from r1)
          cases (show v2 = _ from r2)
          refine ⟨a, b, rfl, hc2, fun p hp => ?_⟩
          have x3 : Xt e H2 (upd H2 p (.tup [.int (a / b), .int (a % b)])) := Xt.new hp
          have o3 : Ok K e (upd H2 p (.tup [.int (a / b), .int (a % b)])) w2 := o2.new hp
          have s3 := o.sr ((x1.trans x2).trans x3) s
          refine ⟨p, _, rfl, SqT.of upd_same, rfl, _, _, rfl, ?_⟩
          obtain ⟨v, h4, q, h5, rfl⟩ := s3.2 i _ hn
          refine ⟨.ref q, h4, ?_⟩
          obtain ⟨vs, h6, h7⟩ := o3.cel n q xs h5 h3
          obtain ⟨o4, x4⟩ := o3.setC (ys := xs.set k (.int (a / b))) h5 (h7.set k (show Rep K e _ (.int (a / b)) (.int (a / b)) from rfl))
          refine ⟨q, vs, (k : Nat), k, rfl, rfl, h6, ?_, _, _, rfl, rfl, kk _ _ ((x1.trans x2).trans (x3.trans x4)) o4 ((s3.setC o3 h5).set (show Rep K e _ (.int (a % b)) (.int (a % b)) from rfl))⟩
          unfold ixN
          rw [if_pos (by omega), if_pos (by rw [← h7.length]; omega), Int.toNat_natCast]
        · cases h
      · cases h
    · cases h
  · cases h
end
section
variable {X : Cx} {pos : Pos} {a b : Expr} {ta tb : TE} {ga gb : GE} {r : List Stmt} {t : TS} {g : GS}
theorem ss_alloc (i : Nat) {x : Str} {px p2 : Pos} (hN : X.N.Nodup) (h : LSs X r t g) (hi : X.N[i]? = some x := by rfl) (hx : Loc X.env.scope x := by first | exact Or.inl rfl | exact Or.inr rfl) (hs : swapsWith (.List [] p2) (some (.Name x px)) pos.line X.env = pure false := by rfl) (hf : X.fn x = true ∨ X.env.scope.names.lookup x = some .local := by first | exact .inl rfl | exact .inr rfl) :
    LSs X (.Assign [.Name x px] (.List [] p2) pos :: r) (tSeq (tAsg (tLst tNil) (L2.gName i)) t) (xAlloc i g) := ⟨pss_cons (ps_set hN hi hx (pe_lst pa_nil) hs hf) h.pe, rs_alloc h.rd⟩
theorem ss_alloc2 (i j : Nat) {x y : Str} {px py pt p2 : Pos} {kt k2 : Nat} {pt2 : Pos} (hN : X.N.Nodup) (ha : LE X a ta ga) (h : LSs X r t g) (hc : X.calm = true := by rfl) (hi : X.N[i]? = some x := by rfl) (hj : X.N[j]? = some y := by rfl) (hij : i ≠ j := by decide)
    (hx : X.env.scope.names.lookup x = some .local := by rfl) (hy : X.env.scope.names.lookup y = some .local := by rfl) (hw : swappedStores [.Tuple [.Name x px, .Name y py] kt pt] (.Tuple [.List [] p2, a] k2 pt2) X.env = pure (some [x, y]) := by rfl)
    (hs : swapsWithSole [.Tuple [.Name x px, .Name y py] kt pt] (.Tuple [.List [] p2, a] k2 pt2) pos.line X.env = pure false := by rfl) (h1 : starEach [.List [] p2, a] X.env = (false, eval (.List [] p2) X.env) :: starEach [a] X.env := by rfl) (h2 : starEach [a] X.env = (false, eval a X.env) :: starEach [] X.env := by rfl) :
    LSs X (.Assign [.Tuple [.Name x px, .Name y py] kt pt] (.Tuple [.List [] p2, a] k2 pt2) pos :: r) (tSeq (tPar i j (tCons (tLst tNil) (tCons ta tNil))) t) (xAlloc2 i j ga g) :=
  ⟨pss_cons (ps_par hc hN hi hj hij hx hy (pa_cons (pe_lst pa_nil) (pa_cons ha.pe pa_nil h2) h1) hw hs) h.pe, rs_alloc2 ha.rd h.rd⟩
theorem ss_alloc3 (i j l : Nat) {x y z : Str} {px py pz pt p1 p2 p3 : Pos} {kt k2 : Nat} {pt2 : Pos} {es : List Expr} {tt : TA} {gg : GA} (hN : X.N.Nodup) (ha : LA X es tt gg) (h : LSs X r t g) (hc : X.calm = true := by rfl) (hi : X.N[i]? = some x := by rfl) (hj : X.N[j]? = some y := by rfl) (hl : X.N[l]? = some z := by rfl) (hij : i ≠ j := by decide) (hil : i ≠ l := by decide) (hjl : j ≠ l := by decide)
    (hx : X.env.scope.names.lookup x = some .local := by rfl) (hy : X.env.scope.names.lookup y = some .local := by rfl) (hz : X.env.scope.names.lookup z = some .local := by rfl) (hw : swappedStores [.Tuple [.Name x px, .Name y py, .Name z pz] kt pt] (.Tuple [.List es p1, .List [] p2, .List [] p3] k2 pt2) X.env = pure (some [x, y, z]) := by rfl)
    (hs : swapsWithSole [.Tuple [.Name x px, .Name y py, .Name z pz] kt pt] (.Tuple [.List es p1, .List [] p2, .List [] p3] k2 pt2) pos.line X.env = pure false := by rfl) (h1 : starEach [.List es p1, .List [] p2, .List [] p3] X.env = (false, eval (.List es p1) X.env) :: starEach [.List [] p2, .List [] p3] X.env := by rfl) (h2 : starEach [.List [] p2, .List [] p3] X.env = (false, eval (.List [] p2) X.env) :: starEach [.List [] p3] X.env := by rfl) (h3 : starEach [.List [] p3] X.env = (false, eval (.List [] p3) X.env) :: starEach [] X.env := by rfl) :
    LSs X (.Assign [.Tuple [.Name x px, .Name y py, .Name z pz] kt pt] (.Tuple [.List es p1, .List [] p2, .List [] p3] k2 pt2) pos :: r) (tSeq (tPar3 i j l (tCons (tLst tt) (tCons (tLst tNil) (tCons (tLst tNil) tNil)))) t) (xAlloc3 i j l gg g) :=
  ⟨pss_cons (ps_par3 hc hN hi hj hl hij hil hjl hx hy hz (pa_cons (pe_lst ha.pe) (pa_cons (pe_lst pa_nil) (pa_cons (pe_lst pa_nil) pa_nil h3) h2) h1) hw hs) h.pe, rs_alloc3 ha.rd h.rd⟩
theorem s_app (i : Nat) {o : Expr} {apos p2 : Pos} (hv : PE X o (tVar i)) (ha : LE X a ta ga) (hbase : attributeBase o "append" X.env (eval o X.env) = eval o X.env := by rfl)
    (hfew : ((backTo p2 (starEach [a] X.env)).all (fun x => !x.1) && (backToKw p2 (keywordEach [] X.env)).all (fun x => x.1.isSome)
      && decide ([a].length + ([] : List Keyword).length + (if ([] : List Keyword).isEmpty then 0 else 1) < 30)) = true := by rfl)
    (hline : (apos.endLine == p2.line) = true := by rfl) (h1 : starEach [a] X.env = (false, eval a X.env) :: starEach [] X.env := by rfl) (hplain : (backTo p2 (starEach [] X.env)).any (·.1) = false := by rfl) (hs : swapsWith (.Call (.Attribute o "append" apos) [a] [] p2) none pos.line X.env = pure false := by rfl) :
    LS X (.Expr (.Call (.Attribute o "append" apos) [a] [] p2) pos) (tDrop (tBM X.K "list" rAppend (tVar i) (tCons ta tNil))) (xApp i ga) :=
  ⟨ps_expr (pe_bm PySem.F.plainAttrs_list PySem.F.slot_list_append PySem.F.type_list_append mt_append hv (pa_cons ha.pe pa_nil h1) hbase hfew hline h1 hplain) hs, rs_app ha.rd⟩
theorem s_setC (i : Nat) {o kk : Expr} {tk : TE} {gk : GE} {ps : Pos} (hv : PE X o (tVar i)) (hk : LE X kk tk gk) (ha : LE X a ta ga) (hs : swapsWithSole [.Subscript o kk ps] a pos.line X.env = pure false := by rfl) (hw : swappedStores [.Subscript o kk ps] a X.env = pure none := by rfl) (h1 : (assignEach [.Subscript o kk ps] X.env).map (·.2) = [assign (.Subscript o kk ps) X.env] := by rfl)
    (h2 : ∀ v, assign (.Subscript o kk ps) X.env v = (do
      let ov ← holding [v] (eval o X.env)
      let iv ← holding [v, ov] (eval kk X.env)
      standAt ps
      holding [v, ov, iv] (setItem ov iv v)
      release [v, ov, iv] []) := by exact fun _ => rfl) : LS X (.Assign [.Subscript o kk ps] a pos) (tAsg ta (gSub (tVar i) tk rSetL)) (xSetC i gk ga) := ⟨ps_asg ha.pe (pg_sub hv hk.pe set_list h2) hs hw h1, rs_setC hk.rd ha.rd⟩
theorem t_neNil (i : Nat) {o : Expr} {p2 : Pos} (hu : X.A.units + 64 < cLine) (hv : PE X o (tVar i)) : LT X (.Compare o [.NotEq] [.List [] p2] pos) (tTest (tOp (rNeX X.K) (tVar i) (tLst tNil))) (xNeNil i) := ⟨pt_cmpR (op_neX hu) hv (pe_lst pa_nil) (nomark _), rt_neNil⟩
theorem e_tupC (i : Nat) {o : Expr} {x : Str} {p : Pos} (hv : PE X o (tVar i)) (hm : X.mg x = none) (hb : bootBuiltins x = some (.type "tuple")) (hg : Gl X x := by rfl) (hn : x ≠ "__name__" := by decide) (hdb : (x == ("__debug__" : Str)) = false := by decide)
    (he : starEach [o] X.env = (false, eval o X.env) :: starEach [] X.env := by rfl) (hpl : (backTo pos (starEach [] X.env)).any (·.1) = false := by rfl) : LE X (.Call (.Name x p) [o] [] pos) (tCB (rTupleX X.K) (tCons (tVar i) tNil)) (xTupC i) := ⟨pe_callTy cr_tupleX hg hm hb (pa_cons hv pa_nil he) hn hdb he hpl, rd_tupC⟩
theorem s_forC (i : Nat) {o tg : Expr} {own : List Nat} {g0 : TG} {xg : GG} {x : List Stmt} (hp : PassesOwn (model X.prog X.w) X.A X.env X.xe) (hc : X.calm = true) (hv : PE X o (tVar i)) (hg : LG X own tg g0 xg) (hb : LSs X x t g) (hs : ∀ x, foldedSetIterable o X.env x = pure x := by exact fun _ => rfl) : LS X (.For tg o x [] pos) (tFor (L2.iList X.K (tVar i)) g0 t) (xForC i xg g) := ⟨ps_for hp hc (pi_list hv) hg.pe hb.pe hs, rs_forC hg.rd hb.rd⟩
end
end Sp
/-! LAY 7: comprehensions, the parts of the block under any reading. -/
namespace Sp
open PySem PySem.Spec PyProof.Rows L2
/-! the weakest reading of each -/
def cnE (K : PySem.W.Frag) (g : GE) : TE := fun σ H Q => ∃ e ss w a w', Ok K e H w ∧ SR K e H ss σ ∧ g ss w = some (a, w') ∧ Post K e H w' a Q
def cnT (K : PySem.W.Frag) (g : GT) : TT := fun σ H Q => ∃ e ss w b w', Ok K e H w ∧ SR K e H ss σ ∧ g ss w = some (b, w') ∧ ∀ H', Xt e H H' → Ok K e H' w' → Q b H'
def cnG (K : PySem.W.Frag) (own : List Nat) (g : GG) : TG := fun v σ H Q => ∃ e ss w a ss', Ok K e H w ∧ SR K e H ss σ ∧ Rep K e H a v ∧ g a ss = some ss' ∧ ∀ σ', SR K e H ss' σ' → Only own σ σ' → Q σ' H
theorem cnE_rd {K : PySem.W.Frag} {g : GE} : RdE K (cnE K g) g := fun e σ ss H w a w' o s h Q q => ⟨e, ss, w, a, w', o, s, h, q⟩
theorem cnT_rd {K : PySem.W.Frag} {g : GT} : RdT K (cnT K g) g := fun e σ ss H w a w' o s h Q q => ⟨e, ss, w, a, w', o, s, h, q⟩
theorem cnG_rd {K : PySem.W.Frag} {own : List Nat} {g : GG} : RdG K own (cnG K own g) g := fun e σ ss H w a v ss' o s r h Q q => ⟨e, ss, w, a, ss', o, s, r, h, q⟩
section
variable {X : Cx} {e : Expr} {es : List Expr}
theorem LE.cn {t : TE} {g : GE} (h : LE X e t g) : PE X e (cnE X.K g) := ⟨fun pins s σ H Q I ⟨en, ss, w, a, w', o, s1, h1, q⟩ => h.pe.run pins s σ H Q I (h.rd en σ ss H w a w' o s1 h1 Q q)⟩
theorem LQ.cn {t : TT} {g : GT} (h : LQ X es t g) : PTs X es (cnT X.K g) := ⟨fun pins s σ H Q I ⟨en, ss, w, a, w', o, s1, h1, q⟩ => h.pe.run pins s σ H Q I (h.rd en σ ss H w a w' o s1 h1 Q q)⟩
theorem LG.cn {own : List Nat} {t : TG} {g : GG} (h : LG X own e t g) : PG X e (cnG X.K own g) := ⟨fun pins s σ H v u Q I r ⟨en, ss, w, a, ss', o, s1, r1, h1, q⟩ => h.pe.run pins s σ H v u Q I r (h.rd en σ ss H w a v ss' o s1 r1 h1 Q q)⟩
variable {pos : Pos} {tg elt it : Expr} {ifs : List Expr} {scope : Scope} {o1 : List Nat} {wi : TI} {gi : GI} {xg : GG} {gt : GT} {ge : GE}
theorem e_lcX (own : List (Str × Nat)) (hc : X.calm = true) (hN : X.N.Nodup) (hi : LI X tg it wi gi) (ok : blkC X.N X.env.scope scope own = true) (ho : ∀ j ∈ o1, j ∈ own.map (·.2))
    (hg : ∀ (s : Shared) (H : Hp) (C : Addr) (cl : List (Str × Addr)) (fp : List Addr), ∃ g, LG (X.blk s H scope (compEnvC scope cl C X.env) fp) o1 tg g xg) (ht : ∀ (s : Shared) (H : Hp) (C : Addr) (cl : List (Str × Addr)) (fp : List Addr), ∃ tt, LQ (X.blk s H scope (compEnvC scope cl C X.env) fp) ifs tt gt)
    (he : ∀ (s : Shared) (H : Hp) (C : Addr) (cl : List (Str × Addr)) (fp : List Addr), ∃ te, LE (X.blk s H scope (compEnvC scope cl C X.env) fp) elt te ge) (hs : ∀ x, foldedSetIterable it X.env x = pure x := by exact fun _ => rfl) :
    LE X (.ListComp elt [⟨tg, it, ifs, 0⟩] scope pos) (tLc wi (cnG X.K o1 xg) (cnT X.K gt) (cnE X.K ge) (own.map (·.2))) (xLc gi xg gt ge (own.map (·.2))) :=
  ⟨pe_lc hc hN hi.pe (blkOk_by ok) (fun s H C cl fp => (hg s H C cl fp).elim fun _ h => h.cn) (fun s H C cl fp => (ht s H C cl fp).elim fun _ h => h.cn) (fun s H C cl fp => (he s H C cl fp).elim fun _ h => h.cn) hs,
    rd_lc hi.rd cnG_rd ho cnT_rd cnE_rd⟩
theorem s_setLcX (own : List (Str × Nat)) {i : Nat} {y : Str} {py spos : Pos} (hc : X.calm = true) (hN : X.N.Nodup) (hk : X.env.scope.kind = .function) (hi : LI X tg it wi gi) (ok : blkC X.N X.env.scope scope own = true) (ho : ∀ j ∈ o1, j ∈ own.map (·.2))
    (hg : ∀ (s : Shared) (H : Hp) (C : Addr) (cl : List (Str × Addr)) (fp : List Addr), ∃ g, LG (X.blk s H scope (compEnvC scope cl C X.env) fp) o1 tg g xg) (ht : ∀ (s : Shared) (H : Hp) (C : Addr) (cl : List (Str × Addr)) (fp : List Addr), ∃ tt, LQ (X.blk s H scope (compEnvC scope cl C X.env) fp) ifs tt gt)
    (he : ∀ (s : Shared) (H : Hp) (C : Addr) (cl : List (Str × Addr)) (fp : List Addr), ∃ te, LE (X.blk s H scope (compEnvC scope cl C X.env) fp) elt te ge) (hs : ∀ x, foldedSetIterable it X.env x = pure x := by exact fun _ => rfl)
    (hy : X.N[i]? = some y := by rfl) (hyl : X.env.scope.names.lookup y = some .local := by rfl) (hl : (py.line == pos.line) = true := by rfl) (hz : (scope.names.any fun (n, k) => n == y && (k == .local || k == .cell)) = false := by decide +kernel) :
    LS X (.Assign [.Name y py] (.ListComp elt [⟨tg, it, ifs, 0⟩] scope pos) spos) (tAsg (tLc wi (cnG X.K o1 xg) (cnT X.K gt) (cnE X.K ge) (own.map (·.2))) (L2.gName i)) (xAsg (xLc gi xg gt ge (own.map (·.2))) (xName i)) :=
  ⟨ps_setLc hc hN hy hyl (sw_true hk hyl hl hz) hi.pe (blkOk_by ok) (fun s H C cl fp => (hg s H C cl fp).elim fun _ h => h.cn) (fun s H C cl fp => (ht s H C cl fp).elim fun _ h => h.cn) (fun s H C cl fp => (he s H C cl fp).elim fun _ h => h.cn) hs,
    rs_asg (rd_lc hi.rd cnG_rd ho cnT_rd cnE_rd) rg_name⟩
end
end Sp
/-! LAY 8: repr of tuples of whole numbers, where no repr is under way. -/
namespace Sp
open PySem PySem.Spec PyProof.Rows L2
def rRepr (K : PySem.W.Frag) : List V → Hp → VK → Prop := fun xs H Q => (xs = [.non] ∧ Q (.str "None") H) ∨ (∃ b : Bool, xs = [.bl b] ∧ Q (.str (if b then "True" else "False")) H) ∨
  ∃ (p : Addr) (ns : List Int), xs = [.ref p] ∧ SqT K H p (ns.map V.int) ∧ (∀ i ∈ ns, i.natAbs.log2 < 1000) ∧ ns.length ≤ 2 ∧ Q (.str (tupleText (ns.map fun i : Int => Str.ofString (toString i)))) H
theorem cr_repr {X : Cx} (hg : X.A.guards = some []) (hu : X.A.units + 64 < cLine) : CallR X (.builtin "repr") (rRepr X.K) := by
  intro pins s σ H xs us Q I r h
  rcases h with ⟨rfl, q⟩ | ⟨b, rfl, q⟩ | ⟨p, ns, rfl, h1, h2, h3, q⟩
  · obtain ⟨u, rfl, hu⟩ := vals1 r
    cases hu
    exact PySem.P.repr_of_none ⟨.str _, H, I.tok _, ⟨_, rfl⟩, q⟩
  · obtain ⟨u, rfl, hu⟩ := vals1 r
    cases hu
    exact PySem.P.repr_of_bool ⟨.str _, H, I.tok _, ⟨_, rfl⟩, q⟩
  · obtain ⟨u, rfl, hu⟩ := vals1 r
    cases hu
    obtain ⟨its, rv, pl, hz⟩ := I.tuple h1
    obtain ⟨o, a1, a2, n, a3⟩ := id pl
    refine call_repr_slot (by omega) pl.typeIs F.slot_tuple_repr (call_tuple_repr pl.typeIs hg (fun _ z => nomatch z) a1 a3 (ts := ns.map fun i : Int => Str.ofString (toString i)) ?_ (fun u tk => ⟨_, _, rfl, .str _, H, I.tok _, ⟨_, rfl⟩, q⟩) ?_)
    · have key : ∀ (ms : List Int) (ws : List Value), (∀ i ∈ ms, i.natAbs.log2 < 1000) → Vals (ms.map V.int) ws → ReprAll X.prog X.w ws (ms.map fun i : Int => Str.ofString (toString i)) := fun ms => by
        induction ms with
        | nil =>
          intro ws _ rw
          cases rw
          exact .nil
        | cons i ms ih =>
          intro ws hl rw
          cases rw with
          | cons r1 r2 =>
            obtain ⟨t, rfl⟩ := r1
            exact .cons (ReprIs.int t (Nat.lt_trans (hl i List.mem_cons_self) (by decide))) (ih _ (fun k hk => hl k (List.mem_cons_of_mem _ hk)) r2)
      exact key ns _ h2 (by simpa using rv)
    · have key : ∀ ms : List Int, (∀ i ∈ ms, i.natAbs.log2 < 1000) → ((ms.map fun i : Int => Str.ofString (toString i)).map (·.length)).sum ≤ 1921 * ms.length := fun ms => by
        induction ms with
        | nil => exact fun _ => Nat.le_refl _
        | cons i ms ih =>
          intro hl
          have a := int_text_len_1921 (i := i) (Nat.lt_trans (hl i List.mem_cons_self) (by decide))
          have b := ih fun k hk => hl k (List.mem_cons_of_mem _ hk)
          simp only [List.map_cons, List.sum_cons, List.length_cons]
          omega
      have a := tupleText_len_le (ns.map fun i : Int => Str.ofString (toString i))
      have b := key ns h2
      rw [List.length_map] at a
      rw [sizeLine_eq]
      omega
theorem rb_repr {K : PySem.W.Frag} : RdB K (rRepr K) bRepr := by
  intro e H w vs as z o r h Q q
  match as, h with
  | [a], h =>
    obtain ⟨v, rfl, ra⟩ := reps1 r
    have h : (if reprOk a then some (A.txt a) else none) = some z := h
    split at h
    · rename_i hr
      cases h
      cases a with
      | non =>
        cases (show v = _ from ra)
        exact .inl ⟨rfl, q.here o rfl⟩
      | bl b =>
        cases (show v = _ from ra)
        refine .inr (.inl ⟨b, rfl, q.here o ?_⟩)
        cases b <;> rfl
      | tup xs =>
        obtain ⟨p, us, rfl, h1, h2⟩ := ra.tupSq
        match xs, hr with
        | [], _ =>
          cases (show us = _ from h2)
          refine .inr (.inr ⟨p, [], rfl, h1, fun _ z => (nomatch z), by decide, q.here o rfl⟩)
        | [.int i], hr =>
          obtain ⟨u, rfl, r1⟩ := reps1 h2
          cases (show u = _ from r1)
          refine .inr (.inr ⟨p, [i], rfl, h1, fun k hk => by rw [List.mem_singleton.mp hk]; exact of_decide_eq_true hr, by simp, q.here o rfl⟩)
        | [.int i, .int j], hr =>
          obtain ⟨u, v, rfl, r1, r2⟩ := reps2 h2
          cases (show u = _ from r1)
          cases (show v = _ from r2)
          have hr2 := of_decide_eq_true hr
          refine .inr (.inr ⟨p, [i, j], rfl, h1, fun k hk => ?_, by simp, q.here o rfl⟩)
          rcases List.mem_cons.mp hk with rfl | hk
          · exact hr2.1
          · rw [List.mem_singleton.mp hk]
            exact hr2.2
      | _ => cases hr
    · cases h
theorem b_repr : bootBuiltins "repr" = some (.builtin "repr") := by decide +kernel
section
variable {X : Cx} {pos : Pos} {a : Expr} {ta : TE} {ga : GE}
theorem e_repr {p : Pos} (hgd : X.A.guards = some []) (hu : X.A.units + 64 < cLine) (hm : X.mg "repr" = none) (ha : LE X a ta ga) (hg : Gl X "repr" := by rfl) (he : starEach [a] X.env = (false, eval a X.env) :: starEach [] X.env := by rfl) (hpl : (backTo pos (starEach [] X.env)).any (·.1) = false := by rfl) :
    LE X (.Call (.Name "repr" p) [a] [] pos) (tCB (rRepr X.K) (tCons ta tNil)) (xBlt bRepr (xConsA ga xNilA)) := e_bl (cr_repr hgd hu) rb_repr b_repr hm (a_cons ha a_nil he) hg (by decide) (by decide) he hpl
theorem e_isTrue {j : Nat} {p2 : Pos} (ha : LE X a ta ga) : LE X (.Compare a [.Is] [.Constant (.bool true) j p2] pos) (tOp rIsB ta (tC (.bl true))) (xOp fIsB ga (xC (.bl true))) := e_cm op_isBl rr_isB ha e_b
end
end Sp
/-! LAY 9: defs that are called where no repr is under way. -/
namespace Sp
open PySem PySem.Spec PyProof.Rows L2
section
variable {P : Program} {w : World} {K : PySem.W.Frag} {mg : Str → Option Value} {base : Heap} {fa : Addr} {name qual : Str} {pr : Arguments} {body : List Stmt} {sc : Scope} {fd : FuncData} {N ps : List Str} {B : Around} {out : List Env} {t : Shared} {H : Hp} {Q : VK} {E : XK}
/-- where a body's walk ended, as the call's result -/
theorem cr_of {cdv : Value} {t2 : Shared} : ∀ f : Flow, SP (cxOf CX0 P w K mg base N qual sc fa cdv B out t H E) [] { nx := fun _ H' => Q .non H', rt := Q } f t2 → CR CX0 out P w H t Q E (.ok (.ret (match f with | .ret v => v | _ => .none))) t2
  | .ret _, ⟨v, _, H2, J, r, q⟩ => ⟨v, H2, J.os, J.bare, J.base, J.hok, r, q⟩
  | .next, ⟨_, H2, J, q⟩ => ⟨.non, H2, J.os, J.bare, J.base, J.hok, rfl, q⟩
  | .brk, ⟨_, _, _, q⟩ => q.elim
  | .cont, ⟨_, _, _, q⟩ => q.elim
/-- one call of a def, from one place: its body's walk there is enough -/
theorem run_at {k : Nat} {gv : Args} {us : List Value} {vs : List V} (F : FunD K name qual pr body sc [] [] fa fd) (S : FnScope N ps sc) (hl : vs.length = ps.length) (hr : Room (k + 1) B) (e0 : Env0 P w K mg base B out t H) (hb : BindsTo t fd gv (ps.zip us)) (rv : Vals vs us)
    (walk : ∀ cdv, Room k (B.deeper (envOfC qual sc t.heap.objs.size fa cdv)) → ∃ r, PSs (cxOf CX0 P w K mg base N qual sc fa cdv B out t H E) body r ∧ r { nx := fun _ H' => Q .non H', rt := Q } (L2.start N vs) H) :
    codeAny (model P w) B (.call (.ref fa) gv) (CR CX0 out P w H t Q E) t := by
  obtain ⟨_, _, _, _, _, _, _, cdv, _, _, rfl, at_, hcd, _⟩ := F.ex
  have here : ∀ b o, base.get? b = some o → t.heap.get? b = some o := fun b o z => (e0.bs b o z).1
  obtain ⟨r, pr1, pr2⟩ := walk cdv (hr.deeper _)
  have slots : ∀ y ∈ ps.zip us, sc.names.lookup y.1 = some .local ∨ (sc.names.lookup y.1 = some .cell ∧ ((cellsFrom (t.heap.objs.size + 1) sc.names []).lookup y.1).isSome = true) := fun y hy =>
    (S.par y.1 (List.of_mem_zip (show (y.1, y.2) ∈ ps.zip us from hy)).1).imp id fun z => ⟨z, PySem.W.cellsFrom_some _ _ _ (.inl z)⟩
  exact codeAny_call_function hr.depth (e0.mod.kin.keeps here _ _ at_) rfl S.co S.gen rfl (PySem.W.codeRec_of (e0.mod.kin.keeps here) hcd) (hb _ _ _ _ (wpAny_newFunctionEnv_cells S.kind slots fun _ ee t1 x1 => by
    subst ee
    exact ⟨(e0.mod.nolimit.keeps here).keeps x1.toInCall.keep, codeAny_func (wpAny_mono (pr1.run [] t1 (L2.start N vs) H _ (inv_start S hr.hd e0 hl rv x1) pr2) (fun f t2 => cr_of f) fun _ _ z => z)⟩))
end
/-- f(e, ..): the def's body is walked where it is called -/
theorem pe_at {X : Cx} {k : Nat} {fa : Addr} {name qual : Str} {pr : Arguments} {body : List Stmt} {sc : Scope} {fd : FuncData} {N ps : List Str} {sp : L2.Sp} {x : Str} {p pos : Pos} {e : Expr} {es : List Expr} {ta : TA}
    (F : FunD X.K name qual pr body sc [] [] fa fd) (S : FnScope N ps sc) (hr : Room (k + 1) X.A) (hm : X.mg x = some (.ref fa)) (hb : Binds X.K fd ps []) (len : ∀ vs H Q E, sp vs H Q E → vs.length = ps.length)
    (walk : ∀ cdv t vs H Q, Room k (X.A.deeper (envOfC qual sc t.heap.objs.size fa cdv)) → sp vs H Q E0 → ∃ r, PSs (cxOf CX0 X.prog X.w X.K X.mg X.base N qual sc fa cdv X.A X.stack t H E0) body r ∧ r { nx := fun _ H' => Q .non H', rt := Q } (L2.start N vs) H)
    (ha : PA X (e :: es) ta) (hg : Gl X x := by rfl) (hdb : (x == ("__debug__" : Str)) = false := by decide)
    (he : starEach (e :: es) X.env = (false, eval e X.env) :: starEach es X.env := by rfl) (hpl : (backTo pos (starEach es X.env)).any (·.1) = false := by rfl) : PE X (.Call (.Name x p) (e :: es) [] pos) (tCall sp [] E0 ta) := by
  constructor
  intro pins s σ H Q I h
  have args := ha.run pos pins s σ H _ I h
  refine wpAny_Call_Name_kw (ld_glob I hg hm (PySem.W.callWith_K (h₀ := X.base) I.ok.mod.kin F.kp (thn args fun us s1 ⟨vs, H1, I1, rv, q⟩ => ⟨I1.kIn, ?_⟩) he hpl) hdb)
  simp only [List.append_nil] at q
  have hv := len _ _ _ _ q
  have bd := hb s1 us I1.kIn (by rw [List.append_nil, ← rv.length]; exact hv)
  rw [List.append_nil] at bd
  refine wpAny_call (codeAny_mono (run_at F S hv hr I1.env0 bd rv fun cdv room => walk cdv s1 vs H1 Q room q) fun res s2 z => ?_)
  match res, z with
  | .error er, z => exact pass0 pins σ H1 s1 er s2 I1 z
  | .ok (.ret _), z => exact I1.after z
  | .ok .next, z => exact z.elim
  | .ok .brk, z => exact z.elim
  | .ok .cont, z => exact z.elim
/-! ### f(a, b, k = c, l = d) -/
def g22 {α : Type} : List α → List α → List α
  | [a, b], [c, d] => [a, b, c, d]
  | _, _ => []
theorem g22_len {α : Type} {xs ys : List α} (h : (g22 xs ys).length = 4) : ∃ a b c d, xs = [a, b] ∧ ys = [c, d] := by
  match xs, ys, h with
  | [a, b], [c, d], _ => exact ⟨a, b, c, d, rfl, rfl⟩
theorem g22_rel {vs zs : List V} {us ws : List Value} (h : Vals vs us) (g : Vals zs ws) : Vals (g22 vs zs) (g22 us ws) := by
  match vs, us, h, zs, ws, g with
  | _, _, .cons r1 (.cons r2 .nil), _, _, .cons r3 (.cons r4 .nil) => exact .cons r1 (.cons r2 (.cons r3 (.cons r4 .nil)))
  | _, _, .nil, _, _, _ => exact .nil
  | _, _, .cons _ .nil, _, _, _ => exact .nil
  | _, _, .cons _ (.cons _ (.cons _ _)), _, _, _ => exact .nil
  | _, _, .cons _ (.cons _ .nil), _, _, .nil => exact .nil
  | _, _, .cons _ (.cons _ .nil), _, _, .cons _ .nil => exact .nil
  | _, _, .cons _ (.cons _ .nil), _, _, .cons _ (.cons _ (.cons _ _)) => exact .nil
theorem rd_callK {K : PySem.W.Frag} {n : Nat} {f : GF} {E : XK} {ta tk : TA} {ga gk gall : GA} (ha : RdA K ta ga) (hk : RdA K tk gk) (hn : ∀ as w r, f as w = some r → as.length = 4) (h2 : ∀ ss w xs w1, ga ss w = some (xs, w1) → xs.length = 2) (h3 : ∀ ss w xs w1, gk ss w = some (xs, w1) → xs.length = 2)
    (hall : ∀ ss w, gall ss w = (ga ss w).bind fun p => (gk ss p.2).map fun q => (p.1 ++ q.1, q.2)) : RdE K (tCallK (spG K 4 f) g22 E ta tk) (xCall f gall) := by
  intro e σ ss H w z w' o s h Q q
  unfold xCall at h
  rw [hall] at h
  obtain ⟨⟨x, w1⟩, h1, h⟩ := Option.bind_eq_some_iff.mp h
  obtain ⟨⟨x1, w2⟩, g1, h1⟩ := Option.bind_eq_some_iff.mp h1
  obtain ⟨⟨x2, w3⟩, g2, h1⟩ := Option.map_eq_some_iff.mp h1
  cases h1
  refine ha e σ ss H w x1 w2 o s g1 _ fun vs H1 y1 o1 r1 => ?_
  refine hk e σ ss H1 w2 x2 _ o1 (o.sr y1 s) g2 _ fun us H2 y2 o2 r2 => ?_
  match x1, h2 _ _ _ _ g1, x2, h3 _ _ _ _ g2 with
  | [a, b], _, [c, d], _ =>
    obtain ⟨u1, u2, rfl, p1, p2⟩ := reps2 r1
    obtain ⟨u3, u4, rfl, p3, p4⟩ := reps2 r2
    refine ⟨rfl, e, [a, b, c, d], _, z, w', o2, ⟨u1, _, rfl, o1.rep y2 p1, u2, _, rfl, o1.rep y2 p2, u3, _, rfl, p3, u4, _, rfl, p4, rfl⟩, h, fun v H3 y3 o3 r3 => q v H3 (y1.trans (y2.trans y3)) o3 r3⟩
section
variable {X : Cx} {pos : Pos} {a b : Expr} {ta tk : TA} {ga gk gall : GA}
theorem kb22 {K : PySem.W.Frag} {fd : FuncData} {ps ks : List Str} (hp : ps.length = 4) (h : ∀ a b c d : Value, bindArgs fd ⟨[a, b], ks.zip [c, d]⟩ = pure (ps.zip [a, b, c, d])) : KBinds K fd ps ks g22 g22 :=
  ⟨fun s us ws _ hl => by
    obtain ⟨a, b, c, d, rfl, rfl⟩ := g22_len (hl.trans hp)
    exact .of_eq (h a b c d), fun h1 h2 => g22_rel h1 h2⟩
end
end Sp
/-! LAY 10: the law's call behind the top: the heap that tells of the script alone. -/
namespace Sp
open PySem PySem.Spec PyProof.Rows L2
/-- the script, locked, where it is no object of the module -/
def scr (K : PySem.W.Frag) (a : Addr) (o : Obj) (xs : List V) : Hp := fun b => if b = a ∧ K.lookup a = none then some (.frz o (.lst xs)) else none
section
variable {K : PySem.W.Frag} {a b : Addr} {o : Obj} {xs : List V}
theorem scr_some {u : HO} (h : scr K a o xs b = some u) : b = a ∧ K.lookup a = none ∧ u = .frz o (.lst xs) := by
  unfold scr at h
  split at h
  · rename_i z
    exact ⟨z.1, z.2, (Option.some.inj h).symm⟩
  · cases h
theorem scr_none (h : b = a → K.lookup a = none → False) : scr K a o xs b = none := if_neg fun z => h z.1 z.2
end
theorem law_at {P : Program} {w : World} {K : PySem.W.Frag} {mg mb : Str → Option Value} {a fa : Addr} {t : Shared} {vs : List Value} {ns : List Int}
    (kin : K.In t.heap) (glob : t.heap.Ns mainGlobals mg) (blt : t.heap.Ns builtinsNs mb) (boot : ∀ y : Str, y ≠ "__name__" → mb y = bootBuiltins y) (nol : t.heap.NoLimit) (gens : t.gens = #[])
    (obj : t.heap.get? a = some { cls := .type "list", data := .seq vs.toArray }) (iv : IntsAre vs ns) (most : ns.length ≤ sizeLine)
    (run : ∀ (base : Heap) (H : Hp), K.In base → base.Ns mainGlobals mg → Env0 P w K mg base callerA [] t H → SqL K H a (ns.map V.int) → codeAny (model P w) callerA (.call (.ref fa) ⟨[.ref a], []⟩) (CR CX0 [] P w H t (fun v _ => v = .bl true) fun _ _ _ => False) t) :
    codeAny (model P w) callerA (.call (.ref fa) ⟨[.ref a], []⟩) (fun r s => r = .ok (.ret (.bool true)) ∧ OldK t.heap s.heap ∧ s.os = t.os ∧ AllBare s.gens) t := by
  have vals := vals_ints iv
  let ob : Obj := { cls := .type "list", data := .seq vs.toArray }
  let H := scr K a ob (ns.map V.int)
  have seen : ∀ {b ub}, t.heap.get? b = some ub → H b = none → (hidT t.heap H).get? b = some ub := fun z n => hidT_get z n
  -- an object of the module is not hidden, nor is a dict
  have inK : K.In (hidT t.heap H) := fun b u z => seen (kin b u z) (scr_none fun e n => by rw [e, n] at z; cases z)
  have ns_ : ∀ {d m}, t.heap.Ns d m → (hidT t.heap H).Ns d m := fun ⟨u, es, ep, z, dd, r⟩ => ⟨u, es, ep, seen z (scr_none fun e _ => by
    subst e
    rw [obj] at z
    cases z
    have dd2 : Data.seq vs.toArray _ = Data.dict es ep := dd
    cases dd2), dd, r⟩
  have hok : HOk P w H t.heap := fun b u z => by
    obtain ⟨rfl, _, rfl⟩ := scr_some z
    exact ⟨obj, Nat.le_trans (Nat.le_of_eq (List.length_map V.int)) most, vs, _, vals, obj⟩
  have sq : SqL K H a (ns.map V.int) := by
    cases q : K.lookup a with
    | none => exact .inl (.inr ⟨ob, if_pos ⟨rfl, q⟩⟩)
    | some u =>
      have z := kin a u q
      rw [obj] at z
      cases z
      refine .inr ⟨_, vs.toArray, _, q, rfl, rfl, rfl, ?_, by simpa using vals⟩
      rw [List.size_toArray, iv.length]
      exact most
  have nl : (hidT t.heap H).NoLimit := nol.elim fun m z => ⟨m, ns_ z.1, z.2⟩
  have env : Env0 P w K mg (hidT t.heap H) callerA [] t H :=
    { frames := rfl, mod := ⟨inK, ns_ glob, ⟨mb, ns_ blt, boot⟩, nl⟩, bs := fun _ _ z => of_hidT z, bsz := Nat.le_of_eq (hidT_size _ _), funs := trivial, frf := fun b z => absurd (show b ∈ ([] : List Addr) from z) List.not_mem_nil, hok := hok, bare := .of_eq gens }
  refine codeAny_mono (run _ H inK (ns_ glob) env sq) fun res s z => ?_
  match res, z with
  | .ok (.ret u), ⟨_, H2, os, bare, un, ok2, rl, rfl⟩ =>
    cases (show u = Value.bool true from rl)
    refine ⟨rfl, OldK.of_keep fun b ub hb => ?_, os, bare⟩
    cases q : H b with
    | none => exact un.keep b ub hb q (fun y => absurd (show b ∈ ([] : List Addr) from y) List.not_mem_nil) List.not_mem_nil
    | some u2 =>
      -- the script: locked, so it stands as it was
      obtain ⟨rfl, _, rfl⟩ := scr_some q
      rw [obj] at hb
      cases hb
      exact (ok2 b _ (un.frzs b _ _ q)).1
  | .ok .next, z => exact z.elim
  | .ok .brk, z => exact z.elim
  | .ok .cont, z => exact z.elim
  | .error _, z => exact False.elim z
end Sp
/-! FX: what of the module the walks lean on (printed by genwalk.py). -/
namespace Sp
open PySem PySem.Spec PyProof.Rows L2

/-- a def stands under its name -/
def DF (K : PySem.W.Frag) (mg : Str → Option Value) (x : Str) (i : Nat) : Prop := ∃ fd, mg x = some (.ref (He.ga K x)) ∧ FunD K x x (defArgs (topS i)) (defBody (topS i)) (defScope (topS i)) [] [] (He.ga K x) fd
structure Fx (P : Program) (w : World) (K : PySem.W.Frag) (mg : Str → Option Value) (base : Heap) : Prop where
  f_isinstance : mg "isinstance" = none
  f_int : mg "int" = none
  f_bool : mg "bool" = none
  f_str : mg "str" = none
  f_tuple : mg "tuple" = none
  f_len : mg "len" = none
  f_all : mg "all" = none
  f_range : mg "range" = none
  f_zip : mg "zip" = none
  f_enumerate : mg "enumerate" = none
  f_max : mg "max" = none
  f_min : mg "min" = none
  f_abs : mg "abs" = none
  f_divmod : mg "divmod" = none
  f_repr : mg "repr" = none
  g_gcd : mg "gcd" = some (.builtin "math.gcd")
  g_isqrt : mg "isqrt" = some (.builtin "math.isqrt")
  ZERO : GC K mg "ZERO" (.ref (He.ga K "ZERO")) cZERO
  ONE : GC K mg "ONE" (.ref (He.ga K "ONE")) cONE
  FOUR : GC K mg "FOUR" (.ref (He.ga K "FOUR")) cFOUR
  TWO : GC K mg "TWO" (.ref (He.ga K "TWO")) cTWO
  MOST_ASKS : GC K mg "MOST_ASKS" (.int 8) cMOST_ASKS
  PLACED : GC K mg "PLACED" (.ref (He.ga K "PLACED")) cPLACED
  STEEP : GC K mg "STEEP" (.ref (He.ga K "STEEP")) cSTEEP
  BENT : GC K mg "BENT" (.ref (He.ga K "BENT")) cBENT
  LEAST : GC K mg "LEAST" (.ref (He.ga K "LEAST")) cLEAST
  NOTHING : GC K mg "NOTHING" (.ref (He.ga K "NOTHING")) cNOTHING
  MOST_GUARDS : GC K mg "MOST_GUARDS" (.int 8) cMOST_GUARDS
  PASSED : mg "PASSED" = some (.ref (He.ga K "PASSED"))
  passed : ∃ es n, KDict K w (He.ga K "PASSED") es n
  p_post : ∃ u, PySem.W.nsIn K (He.ga K "PASSED") "post" = some (some u) ∧ RelV (.str "over") u
  p_curtain : ∃ u, PySem.W.nsIn K (He.ga K "PASSED") "curtain" = some (some u) ∧ RelV (.str "under") u
  cls : Cls K (He.ga K "Bounds")
  no_lowers : NoAttr K (He.ga K "Bounds") "lowers"
  no_uppers : NoAttr K (He.ga K "Bounds") "uppers"
  no_let : NoAttr K (He.ga K "Bounds") "let"
  Bounds : mg "Bounds" = some (.ref (He.ga K "Bounds"))
  mk_ : Mk K (He.ga K "Bounds") (He.ma K (He.ga K "Bounds") "__init__")
  stretch_ : Meth K (He.ga K "Bounds") "stretch" (He.ma K (He.ga K "Bounds") "stretch")
  d_init : ∃ fd, FunD K "__init__" "Bounds.__init__" (defArgs (inClass (topS 76) 0)) (defBody (inClass (topS 76) 0)) (defScope (inClass (topS 76) 0)) [] [] (He.ma K (He.ga K "Bounds") "__init__") fd
  d_stretch : ∃ fd, FunD K "stretch" "Bounds.stretch" (defArgs (inClass (topS 76) 1)) (defBody (inClass (topS 76) 1)) (defScope (inClass (topS 76) 1)) [] [] (He.ma K (He.ga K "Bounds") "stretch") fd
  d_is_whole : DF K mg "is_whole" 2
  d_are_wholes : DF K mg "are_wholes" 3
  d_divisor_of : DF K mg "divisor_of" 4
  d_is_reduced : DF K mg "is_reduced" 5
  d_sign_of : DF K mg "sign_of" 6
  d_is_ratio : DF K mg "is_ratio" 10
  d_ratio : DF K mg "ratio" 11
  d_ratio_sum : DF K mg "ratio_sum" 12
  d_ratio_less : DF K mg "ratio_less" 13
  d_ratio_product : DF K mg "ratio_product" 14
  d_ratio_over : DF K mg "ratio_over" 15
  d_ratio_back : DF K mg "ratio_back" 16
  d_is_lower : DF K mg "is_lower" 17
  d_is_spot : DF K mg "is_spot" 21
  d_is_ahead : DF K mg "is_ahead" 22
  d_far_of : DF K mg "far_of" 23
  d_tall_of : DF K mg "tall_of" 24
  d_is_nearer : DF K mg "is_nearer" 25
  d_way_between : DF K mg "way_between" 26
  d_square_root : DF K mg "square_root" 28
  d_plain : DF K mg "plain" 29
  d_surd_from : DF K mg "surd_from" 30
  d_sign_of_one : DF K mg "sign_of_one" 31
  d_sign_of_two : DF K mg "sign_of_two" 32
  d_compared : DF K mg "compared" 33
  d_lower_surd : DF K mg "lower_surd" 34
  d_higher_surd : DF K mg "higher_surd" 35
  d_bent_less : DF K mg "bent_less" 37
  d_roots_of : DF K mg "roots_of" 38
  d_is_asking : DF K mg "is_asking" 47
  d_is_steep : DF K mg "is_steep" 48
  d_is_least : DF K mg "is_least" 49
  d_line_under : DF K mg "line_under" 50
  d_joined : DF K mg "joined" 51
  d_roof_bound : DF K mg "roof_bound" 52
  d_parts_of : DF K mg "parts_of" 53
  d_head_parts : DF K mg "head_parts" 54
  d_slopes_let : DF K mg "slopes_let" 57
  d_check_head : DF K mg "check_head" 66
  d_check_place : DF K mg "check_place" 67
  d_check_asks : DF K mg "check_asks" 68
  d_as_surd : DF K mg "as_surd" 71
  d_met : DF K mg "met" 72
  d_spread : DF K mg "spread" 73
  d_kept_side : DF K mg "kept_side" 74
  d_below_stretch : DF K mg "below_stretch" 75
  d_slopes_of : DF K mg "slopes_of" 77
  d_check_target : DF K mg "check_target" 79
  d_with_place : DF K mg "with_place" 80
  d_is_guard : DF K mg "is_guard" 84
  d_check_guards : DF K mg "check_guards" 85
  d_check_guarded : DF K mg "check_guarded" 86
  d_guards_hold : DF K mg "guards_hold" 87
  d_is_guarded : DF K mg "is_guarded" 88
  d_fewest_guards : DF K mg "fewest_guards" 89
  d__law_well : DF K mg "_law_well" 91
  d__law_draw : DF K mg "_law_draw" 92
  d__law_rounds : DF K mg "_law_rounds" 93
  d__law_pick : DF K mg "_law_pick" 94
  d__law_common : DF K mg "_law_common" 95
  d__law_lean : DF K mg "_law_lean" 96
  d__law_ratio : DF K mg "_law_ratio" 97
  d__law_plus : DF K mg "_law_plus" 98
  d__law_less : DF K mg "_law_less" 99
  d__law_times : DF K mg "_law_times" 100
  d__law_over : DF K mg "_law_over" 101
  d__law_sign : DF K mg "_law_sign" 102
  d__law_root_sign : DF K mg "_law_root_sign" 103
  d__law_surd_order : DF K mg "_law_surd_order" 104
  d__law_plain : DF K mg "_law_plain" 105
  d__law_place : DF K mg "_law_place" 106
  d__law_apart : DF K mg "_law_apart" 107
  d__law_high : DF K mg "_law_high" 108
  d__law_steep : DF K mg "_law_steep" 109
  d__law_own_head : DF K mg "_law_own_head" 110
  d__law_line : DF K mg "_law_line" 111
  d__law_bound : DF K mg "_law_bound" 112
  d__law_place_bound : DF K mg "_law_place_bound" 113
  d__law_roof_parts : DF K mg "_law_roof_parts" 114
  d__law_parts : DF K mg "_law_parts" 115
  d__law_head_part : DF K mg "_law_head_part" 116
  d__law_span : DF K mg "_law_span" 117
  d__law_pair_span : DF K mg "_law_pair_span" 118
  d__law_spans : DF K mg "_law_spans" 119
  d__law_slopes : DF K mg "_law_slopes" 120
  d__law_size : DF K mg "_law_size" 121
  d__law_part : DF K mg "_law_part" 122
  d__law_jet : DF K mg "_law_jet" 123
  d__law_slack : DF K mg "_law_slack" 124
  d__law_roof_near : DF K mg "_law_roof_near" 125
  d__law_near_ask : DF K mg "_law_near_ask" 126
  d__law_wet : DF K mg "_law_wet" 127
  d__law_guard_asks : DF K mg "_law_guard_asks" 128
  d__law_guarded : DF K mg "_law_guarded" 129
  d__law_guards : DF K mg "_law_guards" 130
  d__law_open_world : DF K mg "_law_open_world" 131
  d__law_target : DF K mg "_law_target" 132
  d__law_fewest : DF K mg "_law_fewest" 133
  d__law_right : DF K mg "_law_right" 134
  d_law : DF K mg "law" 135

section
variable {X : Cx} {pos : Pos} {a : Expr} {ta : TE} {ga : GE}
theorem pv (i : Nat) {x : Str} (hN : X.N[i]? = some x := by rfl) (hv : Vis X.env.scope x := by first | exact Or.inl rfl | exact Or.inr (Or.inl rfl) | exact Or.inr (Or.inr rfl)) (hd : (x == ("__debug__" : Str)) = false := by decide)
    (hcd : (x == ("__classdict__" : Str)) = false := by decide) : PE X (.Name x pos) (tVar i) := pe_var hN hv hd hcd
theorem b_divmod : bootBuiltins "divmod" = some (.builtin "divmod") := by decide +kernel
theorem s_divC (i k j : Nat) {o b : Expr} {tb : TE} {gb : GE} {y : Str} {p1 ps py pt pd pc : Pos} {j1 kt : Nat} (hN : X.N.Nodup) (hv : PE X o (tVar i)) (hm : X.mg "divmod" = none) (ha : LE X a ta ga) (hb : LE X b tb gb) (hc : X.calm = true := by rfl) (hg : Gl X "divmod" := by rfl) (hj : X.N[j]? = some y := by rfl) (hy : Loc X.env.scope y := by first | exact Or.inl rfl | exact Or.inr rfl) (hf : X.fn y = true ∨ X.env.scope.names.lookup y = some .local := by first | exact .inl rfl | exact .inr rfl)
    (he1 : starEach [a, b] X.env = (false, eval a X.env) :: starEach [b] X.env := by rfl) (he2 : starEach [b] X.env = (false, eval b X.env) :: starEach [] X.env := by rfl) (hpl : (backTo pc (starEach [b] X.env)).any (·.1) = false := by rfl)
    (h0 : ∀ v, assign (.Subscript o (.Constant (.int (k : Nat)) j1 p1) ps) X.env v = (do
      let ov ← holding [v] (eval o X.env)
      let iv ← holding [v, ov] (eval (.Constant (.int (k : Nat)) j1 p1) X.env)
      standAt ps
      holding [v, ov, iv] (setItem ov iv v)
      release [v, ov, iv] []) := by exact fun _ => rfl)
    (h2 : (assignEach [.Subscript o (.Constant (.int (k : Nat)) j1 p1) ps, .Name y py] X.env).map (·.2) = assign (.Subscript o (.Constant (.int (k : Nat)) j1 p1) ps) X.env :: (assignEach [.Name y py] X.env).map (·.2) := by rfl)
    (h3 : (assignEach [.Name y py] X.env).map (·.2) = assign (.Name y py) X.env :: (assignEach [] X.env).map (·.2) := by rfl)
    (h4 : (assignEach [.Subscript o (.Constant (.int (k : Nat)) j1 p1) ps, .Name y py] X.env).length = 2 := by rfl) (h5 : (assignEach [.Subscript o (.Constant (.int (k : Nat)) j1 p1) ps, .Name y py] X.env).findIdx? (·.1) = none := by rfl)
    (hs : swapsWithSole [.Tuple [.Subscript o (.Constant (.int (k : Nat)) j1 p1) ps, .Name y py] kt pt] (.Call (.Name "divmod" pd) [a, b] [] pc) pos.line X.env = pure false := by rfl) (hw : swappedStores [.Tuple [.Subscript o (.Constant (.int (k : Nat)) j1 p1) ps, .Name y py] kt pt] (.Call (.Name "divmod" pd) [a, b] [] pc) X.env = pure none := by rfl)
    (h1 : (assignEach [.Tuple [.Subscript o (.Constant (.int (k : Nat)) j1 p1) ps, .Name y py] kt pt] X.env).map (·.2) = [assign (.Tuple [.Subscript o (.Constant (.int (k : Nat)) j1 p1) ps, .Name y py] kt pt) X.env] := by rfl) :
    LS X (.Assign [.Tuple [.Subscript o (.Constant (.int (k : Nat)) j1 p1) ps, .Name y py] kt pt] (.Call (.Name "divmod" pd) [a, b] [] pc) pos) (tAsg (tCB rDivm (tCons ta (tCons tb tNil))) (L2.gTup X.K 2 (gCons (gSub (tVar i) (tC (.int (k : Nat))) rSetL) (gCons (L2.gName j) gNil)))) (xDivC i k j ga gb) :=
  ⟨ps_asg (pe_callB (id := "divmod") call_divmod hg hm b_divmod (pa_cons ha.pe (pa_cons hb.pe pa_nil he2) he1) (by decide) (by decide) he1 hpl) (pg_tup hc (pgs_cons (pg_sub hv pe_int set_list h0) (pgs_cons (pg_name hN hj hy hf) pgs_nil h3) h2) h4 h5) hs hw h1, rs_divC ha.rd hb.rd⟩
section
variable (c : Fx X.prog X.w X.K X.mg X.base)
include c
theorem glP {p : Pos} (hg : Gl X "PASSED") : PE X (.Name "PASSED" p) (tC (.ref (He.ga X.K "PASSED"))) := pe_glob hg c.PASSED rfl (by decide)
theorem rd_passed (ha : RdE X.K ta ga) : RdE X.K (tOp (rIxD X.K X.w) (tC (.ref (He.ga X.K "PASSED"))) ta) (xUn fPassed ga) := by
  intro e σ ss H w a w' o s h Q q
  unfold xUn at h
  obtain ⟨⟨x, w1⟩, h1, h⟩ := Option.bind_eq_some_iff.mp h
  obtain ⟨z, h3, h⟩ := Option.map_eq_some_iff.mp h
  simp only [Prod.mk.injEq] at h
  obtain ⟨rfl, rfl⟩ := h
  refine ha e σ ss H w x w1 o s h1 _ fun v1 H1 x1 o1 r1 => ?_
  obtain ⟨es, n, D⟩ := c.passed
  unfold fPassed at h3
  cases x with
  | str t =>
    dsimp only at h3
    cases (show v1 = _ from r1)
    split at h3
    · rename_i ht
      cases h3
      subst ht
      obtain ⟨u, p1, p2⟩ := c.p_post
      exact ⟨_, _, _, rfl, rfl, ⟨es, n, u, D.at_, D.lit, p1, p2⟩, q _ H1 x1 o1 rfl⟩
    · split at h3
      · rename_i _ ht
        cases h3
        subst ht
        obtain ⟨u, p1, p2⟩ := c.p_curtain
        exact ⟨_, _, _, rfl, rfl, ⟨es, n, u, D.at_, D.lit, p1, p2⟩, q _ H1 x1 o1 rfl⟩
      · cases h3
  | _ => cases h3
theorem e_passed {p : Pos} (ha : LE X a ta ga) (hg : Gl X "PASSED" := by rfl) (hs : PlainIx a := by exact fun _ _ => rfl) : LE X (.Subscript (.Name "PASSED" p) a pos) (tOp (rIxD X.K X.w) (tC (.ref (He.ga X.K "PASSED"))) ta) (xUn fPassed ga) := ⟨pe_ix ix_kdict (glP c hg) ha.pe hs, rd_passed c ha.rd⟩
def rNotP (K : PySem.W.Frag) (d : Addr) : R2 := fun x y H Q => ∃ (z : Str) (r : Option Value), x = .str z ∧ y = .ref d ∧ PySem.W.nsIn K d z = some r ∧ Q (.bl (!r.isSome)) H
theorem rd_notPassed (ha : RdE X.K ta ga) : RdE X.K (tOp (rNotP X.K (He.ga X.K "PASSED")) ta (tC (.ref (He.ga X.K "PASSED")))) (xUn fNotPassed ga) := by
  intro e σ ss H w a w' o s h Q q
  unfold xUn at h
  obtain ⟨⟨x, w1⟩, h1, h⟩ := Option.bind_eq_some_iff.mp h
  obtain ⟨z, h3, h⟩ := Option.map_eq_some_iff.mp h
  simp only [Prod.mk.injEq] at h
  obtain ⟨rfl, rfl⟩ := h
  refine ha e σ ss H w x w1 o s h1 _ fun v1 H1 x1 o1 r1 => ?_
  unfold fNotPassed at h3
  cases x with
  | str t =>
    dsimp only at h3
    cases (show v1 = _ from r1)
    split at h3
    · rename_i ht
      cases h3
      subst ht
      obtain ⟨u, p1, p2⟩ := c.p_post
      exact ⟨_, _, rfl, rfl, p1, q _ H1 x1 o1 rfl⟩
    · split at h3
      · rename_i _ ht
        cases h3
        subst ht
        obtain ⟨u, p1, p2⟩ := c.p_curtain
        exact ⟨_, _, rfl, rfl, p1, q _ H1 x1 o1 rfl⟩
      · cases h3
  | _ => cases h3
theorem op_notP : OpR X (compareOp .NotIn) (rNotP X.K (He.ga X.K "PASSED")) := by
  obtain ⟨es, n, D⟩ := c.passed
  exact op_notIn_kd D
theorem e_notPassed {p : Pos} (ha : LE X a ta ga) (hg : Gl X "PASSED" := by rfl) (hm : behindInMarks .NotIn (.Name "PASSED" p) = false := by rfl) : LE X (.Compare a [.NotIn] [.Name "PASSED" p] pos) (tOp (rNotP X.K (He.ga X.K "PASSED")) ta (tC (.ref (He.ga X.K "PASSED")))) (xUn fNotPassed ga) := ⟨pe_cmpR (op_notP c) ha.pe (glP c hg) hm, rd_notPassed c ha.rd⟩
theorem t_notPassed {p : Pos} (ha : LE X a ta ga) (hg : Gl X "PASSED" := by rfl) (hm : behindInMarks .NotIn (.Name "PASSED" p) = false := by rfl) : LT X (.Compare a [.NotIn] [.Name "PASSED" p] pos) (tTest (tOp (rNotP X.K (He.ga X.K "PASSED")) ta (tC (.ref (He.ga X.K "PASSED"))))) (xT (xUn fNotPassed ga)) := ⟨pt_cmpR (op_notP c) ha.pe (glP c hg) hm, rd_T (rd_notPassed c ha.rd)⟩
theorem rd_fld {f : String} {ff : Str} (hf : ff = f) (hcl : f = "lowers" ∨ f = "uppers" ∨ f = "let") (ha : RdE X.K ta ga) : RdE X.K (tFld X.K ta ff) (xUn (fFld f) ga) := by
  intro e σ ss H w a w' o s h Q q
  unfold xUn at h
  obtain ⟨⟨x, w1⟩, h1, h⟩ := Option.bind_eq_some_iff.mp h
  obtain ⟨z, h3, h⟩ := Option.map_eq_some_iff.mp h
  simp only [Prod.mk.injEq] at h
  obtain ⟨rfl, rfl⟩ := h
  refine ha e σ ss H w x w1 o s h1 _ fun v1 H1 x1 o1 r1 => ?_
  unfold fFld at h3
  cases x with
  | ins lo up le =>
    dsimp only at h3
    obtain ⟨p, dx, v1, v2, v3, rfl, ⟨m1, h4⟩, h5, h6, h7⟩ := r1
    rcases hcl with rfl | rfl | rfl
    · rw [if_pos rfl] at h3
      cases h3
      subst hf
      exact ⟨p, _, dx, _, v1, rfl, h4, c.cls, c.no_lowers, rfl, q _ H1 x1 o1 h5⟩
    · rw [if_neg (by decide), if_pos rfl] at h3
      cases h3
      subst hf
      exact ⟨p, _, dx, _, v2, rfl, h4, c.cls, c.no_uppers, rfl, q _ H1 x1 o1 h6⟩
    · rw [if_neg (by decide), if_neg (by decide), if_pos rfl] at h3
      cases h3
      subst hf
      exact ⟨p, _, dx, _, v3, rfl, h4, c.cls, c.no_let, rfl, q _ H1 x1 o1 h7⟩
  | _ => cases h3
theorem e_fld_lowers (ha : LE X a ta ga) (hb : attributeBase a "lowers" X.env (eval a X.env) = eval a X.env := by rfl) : LE X (.Attribute a "lowers" pos) (tFld X.K ta "lowers") (xUn (fFld "lowers") ga) := ⟨pe_fld ha.pe hb, rd_fld c rfl (.inl rfl) ha.rd⟩
theorem e_fld_uppers (ha : LE X a ta ga) (hb : attributeBase a "uppers" X.env (eval a X.env) = eval a X.env := by rfl) : LE X (.Attribute a "uppers" pos) (tFld X.K ta "uppers") (xUn (fFld "uppers") ga) := ⟨pe_fld ha.pe hb, rd_fld c rfl (.inr (.inl rfl)) ha.rd⟩
theorem e_fld_let (ha : LE X a ta ga) (hb : attributeBase a "let" X.env (eval a X.env) = eval a X.env := by rfl) : LE X (.Attribute a "let" pos) (tFld X.K ta "let") (xUn (fFld "let") ga) := ⟨pe_fld ha.pe hb, rd_fld c rfl (.inr (.inr rfl)) ha.rd⟩
end

end
end Sp
namespace Sp
open PySem PySem.Spec PyProof.Rows L2
section
variable {P : Program} {w : World} {K : PySem.W.Frag} {mg : Str → Option Value} {base : Heap}
theorem sc_is_whole : FnScope ["value"] ["value"] (defScope (topS 2)) := ⟨rfl, rfl, rfl, by decide +kernel, rfl, by decide +kernel, by decide +kernel⟩
theorem h_is_whole (c : Fx P w K mg base) : Has P w K mg base "is_whole" 1 1 G_is_whole := by
  obtain ⟨fd, hm, F⟩ := c.d_is_whole
  have sc := sc_is_whole
  exact has_of hm F sc (fun _ _ _ _ _ _ us hl => match us, hl with | [_], _ => rfl) fun cdv A outer s H E hr => ⟨_,
    ss_one (s_ret (e_and (e_isi (T := "int") (by decide) b_isi c.f_isinstance b_int c.f_int (e_v 0)) (e_and1 (e_not (e_isi (T := "bool") (by decide) b_isi c.f_isinstance b_bool c.f_bool (e_v 0))))))⟩
theorem sc_are_wholes : FnScope ["value", "many", "number"] ["value", "many"] (defScope (topS 3)) := ⟨rfl, rfl, rfl, by decide +kernel, rfl, by decide +kernel, by decide +kernel⟩
theorem h_are_wholes (c : Fx P w K mg base) : Has P w K mg base "are_wholes" 2 2 G_are_wholes := by
  obtain ⟨fd, hm, F⟩ := c.d_are_wholes
  have sc := sc_are_wholes
  exact has_of hm F sc (fun _ _ _ _ _ _ us hl => match us, hl with | [_, _], _ => rfl) fun cdv A outer s H E hr => ⟨_,
    ss_one (s_ret (e_and (e_isi (T := "tuple") (by decide) b_isi c.f_isinstance b_tuple c.f_tuple (e_v 0)) (e_and (e_cm (op_eqX hr.units) rr_eq (e_bl cr_lenX rb_len b_len c.f_len (a_cons (e_v 0) (a_nil))) (e_v 1)) (e_and1 (e_bl (cr_all rfl) rb_all b_all c.f_all (a_cons (e_lcX [("number", 2)] rfl sc.nd (i_tup (e_v 0)) (by show blkC ["value", "many", "number"] (defScope (topS 3)) _ _ = true; decide +kernel) (by decide) (fun _ _ _ _ _ => ⟨_, g_v 2 sc.nd⟩) (fun _ _ _ _ _ => ⟨_, q_nil⟩) (fun _ _ _ _ _ => ⟨_, e_call (h_is_whole c) (hr.mono (by decide)) (a_cons (e_v 2) (a_nil))⟩)) (a_nil)))))))⟩
theorem sc_divisor_of : FnScope ["numbers", "found", "number"] ["numbers"] (defScope (topS 4)) := ⟨rfl, rfl, rfl, by decide +kernel, rfl, by decide +kernel, by decide +kernel⟩
theorem h_divisor_of (c : Fx P w K mg base) : Has P w K mg base "divisor_of" 1 1 G_divisor_of := by
  obtain ⟨fd, hm, F⟩ := c.d_divisor_of
  have sc := sc_divisor_of
  exact has_of hm F sc (fun _ _ _ _ _ _ us hl => match us, hl with | [_], _ => rfl) fun cdv A outer s H E hr => ⟨_,
    ss_cons (s_set 1 sc.nd (e_i))
    (ss_cons (s_for PassesOwn.never rfl (i_tup (e_v 0)) (g_v 2 sc.nd) (ss_one (s_set 1 sc.nd (e_fn cr_gcd rb_gcd c.g_gcd (a_cons (e_v 1) (a_cons (e_v 2) (a_nil)))))))
    (ss_one (s_ret (e_v 1))))⟩
theorem sc_is_reduced : FnScope ["numbers"] ["numbers"] (defScope (topS 5)) := ⟨rfl, rfl, rfl, by decide +kernel, rfl, by decide +kernel, by decide +kernel⟩
theorem h_is_reduced (c : Fx P w K mg base) : Has P w K mg base "is_reduced" 2 1 G_is_reduced := by
  obtain ⟨fd, hm, F⟩ := c.d_is_reduced
  have sc := sc_is_reduced
  exact has_of hm F sc (fun _ _ _ _ _ _ us hl => match us, hl with | [_], _ => rfl) fun cdv A outer s H E hr => ⟨_,
    ss_one (s_ret (e_cm (op_eqX hr.units) rr_eq (e_call (h_divisor_of c) (hr.mono (by decide)) (a_cons (e_v 0) (a_nil))) (e_i)))⟩
theorem sc_sign_of : FnScope ["number"] ["number"] (defScope (topS 6)) := ⟨rfl, rfl, rfl, by decide +kernel, rfl, by decide +kernel, by decide +kernel⟩
theorem h_sign_of (c : Fx P w K mg base) : Has P w K mg base "sign_of" 1 1 G_sign_of := by
  obtain ⟨fd, hm, F⟩ := c.d_sign_of
  have sc := sc_sign_of
  exact has_of hm F sc (fun _ _ _ _ _ _ us hl => match us, hl with | [_], _ => rfl) fun cdv A outer s H E hr => ⟨_,
    ss_one (s_ret (e_if (t_cm op_gt rr_gt (e_v 0) (e_i)) (e_i) (e_if (t_cm op_lt rr_lt (e_v 0) (e_i)) (e_neg (e_i)) (e_i))))⟩
theorem sc_is_ratio : FnScope ["value"] ["value"] (defScope (topS 10)) := ⟨rfl, rfl, rfl, by decide +kernel, rfl, by decide +kernel, by decide +kernel⟩
theorem h_is_ratio (c : Fx P w K mg base) : Has P w K mg base "is_ratio" 3 1 G_is_ratio := by
  obtain ⟨fd, hm, F⟩ := c.d_is_ratio
  have sc := sc_is_ratio
  exact has_of hm F sc (fun _ _ _ _ _ _ us hl => match us, hl with | [_], _ => rfl) fun cdv A outer s H E hr => ⟨_,
    ss_one (s_ret (e_and (e_call (h_are_wholes c) (hr.mono (by decide)) (a_cons (e_v 0) (a_cons (e_i) (a_nil)))) (e_and (e_cm op_gt rr_gt (e_ix (e_v 0) (e_i)) (e_i)) (e_and1 (e_call (h_is_reduced c) (hr.mono (by decide)) (a_cons (e_v 0) (a_nil)))))))⟩
theorem sc_ratio : FnScope ["number", "under", "part"] ["number", "under"] (defScope (topS 11)) := ⟨rfl, rfl, rfl, by decide +kernel, rfl, by decide +kernel, by decide +kernel⟩
theorem h_ratio (c : Fx P w K mg base) : Has P w K mg base "ratio" 2 2 G_ratio := by
  obtain ⟨fd, hm, F⟩ := c.d_ratio
  have sc := sc_ratio
  exact has_of hm F sc (fun _ _ _ _ _ _ us hl => match us, hl with | [_, _], _ => rfl) fun cdv A outer s H E hr => ⟨_,
    ss_cons (s_set 2 sc.nd (e_call (h_divisor_of c) (hr.mono (by decide)) (a_cons (e_tup (a_cons (e_v 0) (a_cons (e_v 1) (a_nil)))) (a_nil))))
    (ss_cons (s_set 2 sc.nd (e_if (t_cm op_gt rr_gt (e_v 1) (e_i)) (e_v 2) (e_neg (e_v 2))))
    (ss_one (s_ret (e_tup (a_cons (e_div (e_v 0) (e_v 2)) (a_cons (e_div (e_v 1) (e_v 2)) (a_nil)))))))⟩
theorem sc_ratio_sum : FnScope ["one", "two"] ["one", "two"] (defScope (topS 12)) := ⟨rfl, rfl, rfl, by decide +kernel, rfl, by decide +kernel, by decide +kernel⟩
theorem h_ratio_sum (c : Fx P w K mg base) : Has P w K mg base "ratio_sum" 3 2 G_ratio_sum := by
  obtain ⟨fd, hm, F⟩ := c.d_ratio_sum
  have sc := sc_ratio_sum
  exact has_of hm F sc (fun _ _ _ _ _ _ us hl => match us, hl with | [_, _], _ => rfl) fun cdv A outer s H E hr => ⟨_,
    ss_one (s_ret (e_call (h_ratio c) (hr.mono (by decide)) (a_cons (e_add (e_mul (e_ix (e_v 0) (e_i)) (e_ix (e_v 1) (e_i))) (e_mul (e_ix (e_v 1) (e_i)) (e_ix (e_v 0) (e_i)))) (a_cons (e_mul (e_ix (e_v 0) (e_i)) (e_ix (e_v 1) (e_i))) (a_nil)))))⟩
theorem sc_ratio_less : FnScope ["one", "two"] ["one", "two"] (defScope (topS 13)) := ⟨rfl, rfl, rfl, by decide +kernel, rfl, by decide +kernel, by decide +kernel⟩
theorem h_ratio_less (c : Fx P w K mg base) : Has P w K mg base "ratio_less" 3 2 G_ratio_less := by
  obtain ⟨fd, hm, F⟩ := c.d_ratio_less
  have sc := sc_ratio_less
  exact has_of hm F sc (fun _ _ _ _ _ _ us hl => match us, hl with | [_, _], _ => rfl) fun cdv A outer s H E hr => ⟨_,
    ss_one (s_ret (e_call (h_ratio c) (hr.mono (by decide)) (a_cons (e_sub (e_mul (e_ix (e_v 0) (e_i)) (e_ix (e_v 1) (e_i))) (e_mul (e_ix (e_v 1) (e_i)) (e_ix (e_v 0) (e_i)))) (a_cons (e_mul (e_ix (e_v 0) (e_i)) (e_ix (e_v 1) (e_i))) (a_nil)))))⟩
theorem sc_ratio_product : FnScope ["one", "two"] ["one", "two"] (defScope (topS 14)) := ⟨rfl, rfl, rfl, by decide +kernel, rfl, by decide +kernel, by decide +kernel⟩
theorem h_ratio_product (c : Fx P w K mg base) : Has P w K mg base "ratio_product" 3 2 G_ratio_product := by
  obtain ⟨fd, hm, F⟩ := c.d_ratio_product
  have sc := sc_ratio_product
  exact has_of hm F sc (fun _ _ _ _ _ _ us hl => match us, hl with | [_, _], _ => rfl) fun cdv A outer s H E hr => ⟨_,
    ss_one (s_ret (e_call (h_ratio c) (hr.mono (by decide)) (a_cons (e_mul (e_ix (e_v 0) (e_i)) (e_ix (e_v 1) (e_i))) (a_cons (e_mul (e_ix (e_v 0) (e_i)) (e_ix (e_v 1) (e_i))) (a_nil)))))⟩
theorem sc_ratio_over : FnScope ["one", "two"] ["one", "two"] (defScope (topS 15)) := ⟨rfl, rfl, rfl, by decide +kernel, rfl, by decide +kernel, by decide +kernel⟩
theorem h_ratio_over (c : Fx P w K mg base) : Has P w K mg base "ratio_over" 3 2 G_ratio_over := by
  obtain ⟨fd, hm, F⟩ := c.d_ratio_over
  have sc := sc_ratio_over
  exact has_of hm F sc (fun _ _ _ _ _ _ us hl => match us, hl with | [_, _], _ => rfl) fun cdv A outer s H E hr => ⟨_,
    ss_one (s_ret (e_call (h_ratio c) (hr.mono (by decide)) (a_cons (e_mul (e_ix (e_v 0) (e_i)) (e_ix (e_v 1) (e_i))) (a_cons (e_mul (e_ix (e_v 0) (e_i)) (e_ix (e_v 1) (e_i))) (a_nil)))))⟩
theorem sc_ratio_back : FnScope ["one"] ["one"] (defScope (topS 16)) := ⟨rfl, rfl, rfl, by decide +kernel, rfl, by decide +kernel, by decide +kernel⟩
theorem h_ratio_back (c : Fx P w K mg base) : Has P w K mg base "ratio_back" 1 1 G_ratio_back := by
  obtain ⟨fd, hm, F⟩ := c.d_ratio_back
  have sc := sc_ratio_back
  exact has_of hm F sc (fun _ _ _ _ _ _ us hl => match us, hl with | [_], _ => rfl) fun cdv A outer s H E hr => ⟨_,
    ss_one (s_ret (e_tup (a_cons (e_neg (e_ix (e_v 0) (e_i))) (a_cons (e_ix (e_v 0) (e_i)) (a_nil)))))⟩
theorem sc_is_lower : FnScope ["one", "two"] ["one", "two"] (defScope (topS 17)) := ⟨rfl, rfl, rfl, by decide +kernel, rfl, by decide +kernel, by decide +kernel⟩
theorem h_is_lower (c : Fx P w K mg base) : Has P w K mg base "is_lower" 1 2 G_is_lower := by
  obtain ⟨fd, hm, F⟩ := c.d_is_lower
  have sc := sc_is_lower
  exact has_of hm F sc (fun _ _ _ _ _ _ us hl => match us, hl with | [_, _], _ => rfl) fun cdv A outer s H E hr => ⟨_,
    ss_one (s_ret (e_cm op_lt rr_lt (e_mul (e_ix (e_v 0) (e_i)) (e_ix (e_v 1) (e_i))) (e_mul (e_ix (e_v 1) (e_i)) (e_ix (e_v 0) (e_i)))))⟩
theorem sc_is_spot : FnScope ["value"] ["value"] (defScope (topS 21)) := ⟨rfl, rfl, rfl, by decide +kernel, rfl, by decide +kernel, by decide +kernel⟩
theorem h_is_spot (c : Fx P w K mg base) : Has P w K mg base "is_spot" 3 1 G_is_spot := by
  obtain ⟨fd, hm, F⟩ := c.d_is_spot
  have sc := sc_is_spot
  exact has_of hm F sc (fun _ _ _ _ _ _ us hl => match us, hl with | [_], _ => rfl) fun cdv A outer s H E hr => ⟨_,
    ss_one (s_ret (e_and (e_call (h_are_wholes c) (hr.mono (by decide)) (a_cons (e_v 0) (a_cons (e_i) (a_nil)))) (e_and (e_cm op_gt rr_gt (e_ix (e_v 0) (e_i)) (e_i)) (e_and1 (e_call (h_is_reduced c) (hr.mono (by decide)) (a_cons (e_v 0) (a_nil)))))))⟩
theorem sc_is_ahead : FnScope ["value"] ["value"] (defScope (topS 22)) := ⟨rfl, rfl, rfl, by decide +kernel, rfl, by decide +kernel, by decide +kernel⟩
theorem h_is_ahead (c : Fx P w K mg base) : Has P w K mg base "is_ahead" 4 1 G_is_ahead := by
  obtain ⟨fd, hm, F⟩ := c.d_is_ahead
  have sc := sc_is_ahead
  exact has_of hm F sc (fun _ _ _ _ _ _ us hl => match us, hl with | [_], _ => rfl) fun cdv A outer s H E hr => ⟨_,
    ss_one (s_ret (e_and (e_call (h_is_spot c) (hr.mono (by decide)) (a_cons (e_v 0) (a_nil))) (e_and1 (e_cm op_gt rr_gt (e_ix (e_v 0) (e_i)) (e_i)))))⟩
theorem sc_far_of : FnScope ["place"] ["place"] (defScope (topS 23)) := ⟨rfl, rfl, rfl, by decide +kernel, rfl, by decide +kernel, by decide +kernel⟩
theorem h_far_of (c : Fx P w K mg base) : Has P w K mg base "far_of" 3 1 G_far_of := by
  obtain ⟨fd, hm, F⟩ := c.d_far_of
  have sc := sc_far_of
  exact has_of hm F sc (fun _ _ _ _ _ _ us hl => match us, hl with | [_], _ => rfl) fun cdv A outer s H E hr => ⟨_,
    ss_one (s_ret (e_call (h_ratio c) (hr.mono (by decide)) (a_cons (e_ix (e_v 0) (e_i)) (a_cons (e_ix (e_v 0) (e_i)) (a_nil)))))⟩
theorem sc_tall_of : FnScope ["place"] ["place"] (defScope (topS 24)) := ⟨rfl, rfl, rfl, by decide +kernel, rfl, by decide +kernel, by decide +kernel⟩
theorem h_tall_of (c : Fx P w K mg base) : Has P w K mg base "tall_of" 3 1 G_tall_of := by
  obtain ⟨fd, hm, F⟩ := c.d_tall_of
  have sc := sc_tall_of
  exact has_of hm F sc (fun _ _ _ _ _ _ us hl => match us, hl with | [_], _ => rfl) fun cdv A outer s H E hr => ⟨_,
    ss_one (s_ret (e_call (h_ratio c) (hr.mono (by decide)) (a_cons (e_ix (e_v 0) (e_i)) (a_cons (e_ix (e_v 0) (e_i)) (a_nil)))))⟩
theorem sc_is_nearer : FnScope ["one", "two"] ["one", "two"] (defScope (topS 25)) := ⟨rfl, rfl, rfl, by decide +kernel, rfl, by decide +kernel, by decide +kernel⟩
theorem h_is_nearer (c : Fx P w K mg base) : Has P w K mg base "is_nearer" 1 2 G_is_nearer := by
  obtain ⟨fd, hm, F⟩ := c.d_is_nearer
  have sc := sc_is_nearer
  exact has_of hm F sc (fun _ _ _ _ _ _ us hl => match us, hl with | [_, _], _ => rfl) fun cdv A outer s H E hr => ⟨_,
    ss_one (s_ret (e_cm op_lt rr_lt (e_mul (e_ix (e_v 0) (e_i)) (e_ix (e_v 1) (e_i))) (e_mul (e_ix (e_v 1) (e_i)) (e_ix (e_v 0) (e_i)))))⟩
theorem sc_way_between : FnScope ["one", "two", "gap", "rise", "steep", "far", "tall"] ["one", "two"] (defScope (topS 26)) := ⟨rfl, rfl, rfl, by decide +kernel, rfl, by decide +kernel, by decide +kernel⟩
theorem h_way_between (c : Fx P w K mg base) : Has P w K mg base "way_between" 4 2 G_way_between := by
  obtain ⟨fd, hm, F⟩ := c.d_way_between
  have sc := sc_way_between
  exact has_of hm F sc (fun _ _ _ _ _ _ us hl => match us, hl with | [_, _], _ => rfl) fun cdv A outer s H E hr => ⟨_,
    ss_cons (s_par2 5 6 sc.nd (a_cons (e_call (h_far_of c) (hr.mono (by decide)) (a_cons (e_v 0) (a_nil))) (a_cons (e_call (h_tall_of c) (hr.mono (by decide)) (a_cons (e_v 0) (a_nil))) (a_nil))))
    (ss_cons (s_set 2 sc.nd (e_call (h_ratio_less c) (hr.mono (by decide)) (a_cons (e_call (h_far_of c) (hr.mono (by decide)) (a_cons (e_v 1) (a_nil))) (a_cons (e_v 5) (a_nil)))))
    (ss_cons (s_set 3 sc.nd (e_call (h_ratio_less c) (hr.mono (by decide)) (a_cons (e_call (h_tall_of c) (hr.mono (by decide)) (a_cons (e_v 1) (a_nil))) (a_cons (e_v 6) (a_nil)))))
    (ss_cons (s_set 4 sc.nd (e_call (h_ratio c) (hr.mono (by decide)) (a_cons (e_mul (e_ix (e_v 3) (e_i)) (e_ix (e_v 2) (e_i))) (a_cons (e_mul (e_ix (e_v 3) (e_i)) (e_ix (e_v 2) (e_i))) (a_nil)))))
    (ss_one (s_ret (e_tup (a_cons (e_call (h_ratio_less c) (hr.mono (by decide)) (a_cons (e_v 6) (a_cons (e_call (h_ratio_product c) (hr.mono (by decide)) (a_cons (e_v 4) (a_cons (e_v 5) (a_nil)))) (a_nil)))) (a_cons (e_v 4) (a_nil)))))))))⟩
theorem sc_square_root : FnScope ["number", "top", "below"] ["number"] (defScope (topS 28)) := ⟨rfl, rfl, rfl, by decide +kernel, rfl, by decide +kernel, by decide +kernel⟩
theorem h_square_root (c : Fx P w K mg base) : Has P w K mg base "square_root" 1 1 G_square_root := by
  obtain ⟨fd, hm, F⟩ := c.d_square_root
  have sc := sc_square_root
  exact has_of hm F sc (fun _ _ _ _ _ _ us hl => match us, hl with | [_], _ => rfl) fun cdv A outer s H E hr => ⟨_,
    ss_cons (s_par2 1 2 sc.nd (a_cons (e_fn cr_isqrt rb_isqrt c.g_isqrt (a_cons (e_ix (e_v 0) (e_i)) (a_nil))) (a_cons (e_fn cr_isqrt rb_isqrt c.g_isqrt (a_cons (e_ix (e_v 0) (e_i)) (a_nil))) (a_nil))))
    (ss_one (s_ret (e_if (t_w (w_and (t_cm (op_eqX hr.units) rr_eq (e_mul (e_v 1) (e_v 1)) (e_ix (e_v 0) (e_i))) (w_and1 (t_cm (op_eqX hr.units) rr_eq (e_mul (e_v 2) (e_v 2)) (e_ix (e_v 0) (e_i)))))) (e_tup (a_cons (e_v 1) (a_cons (e_v 2) (a_nil)))) (e_n))))⟩
theorem sc_plain : FnScope ["number"] ["number"] (defScope (topS 29)) := ⟨rfl, rfl, rfl, by decide +kernel, rfl, by decide +kernel, by decide +kernel⟩
theorem h_plain (c : Fx P w K mg base) : Has P w K mg base "plain" 1 1 G_plain := by
  obtain ⟨fd, hm, F⟩ := c.d_plain
  have sc := sc_plain
  exact has_of hm F sc (fun _ _ _ _ _ _ us hl => match us, hl with | [_], _ => rfl) fun cdv A outer s H E hr => ⟨_,
    ss_one (s_ret (e_tup (a_cons (e_v 0) (a_cons (e_i) (a_cons (e_g c.ZERO) (a_nil))))))⟩
theorem sc_surd_from : FnScope ["part", "factor", "square", "whole", "root", "way"] ["part", "factor", "square"] (defScope (topS 30)) := ⟨rfl, rfl, rfl, by decide +kernel, rfl, by decide +kernel, by decide +kernel⟩
theorem h_surd_from (c : Fx P w K mg base) : Has P w K mg base "surd_from" 4 3 G_surd_from := by
  obtain ⟨fd, hm, F⟩ := c.d_surd_from
  have sc := sc_surd_from
  exact has_of hm F sc (fun _ _ _ _ _ _ us hl => match us, hl with | [_, _, _], _ => rfl) fun cdv A outer s H E hr => ⟨_,
    ss_cons (s_set 3 sc.nd (e_call (h_ratio_product c) (hr.mono (by decide)) (a_cons (e_call (h_ratio_product c) (hr.mono (by decide)) (a_cons (e_v 1) (a_cons (e_v 1) (a_nil)))) (a_cons (e_v 2) (a_nil)))))
    (ss_cons (s_par2 4 5 sc.nd (a_cons (e_call (h_square_root c) (hr.mono (by decide)) (a_cons (e_v 3) (a_nil))) (a_cons (e_call (h_sign_of c) (hr.mono (by decide)) (a_cons (e_ix (e_v 1) (e_i)) (a_nil))) (a_nil))))
    (ss_cons (s_if (t_isN (e_v 4)) (ss_one (s_ret (e_tup (a_cons (e_v 0) (a_cons (e_v 5) (a_cons (e_v 3) (a_nil))))))) (ss_nil))
    (ss_one (s_ret (e_call (h_plain c) (hr.mono (by decide)) (a_cons (e_call (h_ratio_sum c) (hr.mono (by decide)) (a_cons (e_v 0) (a_cons (e_tup (a_cons (e_mul (e_v 5) (e_ix (e_v 4) (e_i))) (a_cons (e_ix (e_v 4) (e_i)) (a_nil)))) (a_nil)))) (a_nil)))))))⟩
theorem sc_sign_of_one : FnScope ["p", "q", "r", "first", "second"] ["p", "q", "r"] (defScope (topS 31)) := ⟨rfl, rfl, rfl, by decide +kernel, rfl, by decide +kernel, by decide +kernel⟩
theorem h_sign_of_one (c : Fx P w K mg base) : Has P w K mg base "sign_of_one" 2 3 G_sign_of_one := by
  obtain ⟨fd, hm, F⟩ := c.d_sign_of_one
  have sc := sc_sign_of_one
  exact has_of hm F sc (fun _ _ _ _ _ _ us hl => match us, hl with | [_, _, _], _ => rfl) fun cdv A outer s H E hr => ⟨_,
    ss_cons (s_par2 3 4 sc.nd (a_cons (e_call (h_sign_of c) (hr.mono (by decide)) (a_cons (e_v 0) (a_nil))) (a_cons (e_if (t_cm op_gt rr_gt (e_v 2) (e_i)) (e_call (h_sign_of c) (hr.mono (by decide)) (a_cons (e_v 1) (a_nil))) (e_i)) (a_nil))))
    (ss_cons (s_if (t_w (w_or (t_cm (op_eqX hr.units) rr_eq (e_v 3) (e_i)) (w_or (t_cm (op_eqX hr.units) rr_eq (e_v 4) (e_i)) (w_or1 (t_cm (op_eqX hr.units) rr_eq (e_v 3) (e_v 4)))))) (ss_one (s_ret (e_if (t_cm (op_neX hr.units) rr_ne (e_v 3) (e_i)) (e_v 3) (e_v 4)))) (ss_nil))
    (ss_one (s_ret (e_mul (e_v 3) (e_call (h_sign_of c) (hr.mono (by decide)) (a_cons (e_sub (e_mul (e_v 0) (e_v 0)) (e_mul (e_mul (e_v 1) (e_v 1)) (e_v 2))) (a_nil)))))))⟩
theorem sc_sign_of_two : FnScope ["p", "q", "r", "s", "t", "first", "second"] ["p", "q", "r", "s", "t"] (defScope (topS 32)) := ⟨rfl, rfl, rfl, by decide +kernel, rfl, by decide +kernel, by decide +kernel⟩
theorem h_sign_of_two (c : Fx P w K mg base) : Has P w K mg base "sign_of_two" 3 5 G_sign_of_two := by
  obtain ⟨fd, hm, F⟩ := c.d_sign_of_two
  have sc := sc_sign_of_two
  exact has_of hm F sc (fun _ _ _ _ _ _ us hl => match us, hl with | [_, _, _, _, _], _ => rfl) fun cdv A outer s H E hr => ⟨_,
    ss_cons (s_par2 5 6 sc.nd (a_cons (e_call (h_sign_of_one c) (hr.mono (by decide)) (a_cons (e_v 0) (a_cons (e_v 1) (a_cons (e_v 2) (a_nil))))) (a_cons (e_if (t_cm op_gt rr_gt (e_v 4) (e_i)) (e_call (h_sign_of c) (hr.mono (by decide)) (a_cons (e_v 3) (a_nil))) (e_i)) (a_nil))))
    (ss_cons (s_if (t_w (w_or (t_cm (op_eqX hr.units) rr_eq (e_v 5) (e_i)) (w_or (t_cm (op_eqX hr.units) rr_eq (e_v 6) (e_i)) (w_or1 (t_cm (op_eqX hr.units) rr_eq (e_v 5) (e_v 6)))))) (ss_one (s_ret (e_if (t_cm (op_neX hr.units) rr_ne (e_v 5) (e_i)) (e_v 5) (e_v 6)))) (ss_nil))
    (ss_one (s_ret (e_mul (e_v 5) (e_call (h_sign_of_one c) (hr.mono (by decide)) (a_cons (e_sub (e_add (e_mul (e_v 0) (e_v 0)) (e_mul (e_mul (e_v 1) (e_v 1)) (e_v 2))) (e_mul (e_mul (e_v 3) (e_v 3)) (e_v 4))) (a_cons (e_mul (e_mul (e_i) (e_v 0)) (e_v 1)) (a_cons (e_v 2) (a_nil)))))))))⟩
theorem sc_compared : FnScope ["one", "two", "e", "f", "p", "q", "r", "s", "k", "m", "u", "v"] ["one", "two"] (defScope (topS 33)) := ⟨rfl, rfl, rfl, by decide +kernel, rfl, by decide +kernel, by decide +kernel⟩
theorem h_compared (c : Fx P w K mg base) : Has P w K mg base "compared" 4 2 G_compared := by
  obtain ⟨fd, hm, F⟩ := c.d_compared
  have sc := sc_compared
  exact has_of hm F sc (fun _ _ _ _ _ _ us hl => match us, hl with | [_, _], _ => rfl) fun cdv A outer s H E hr => ⟨_,
    ss_cons (s_asg (e_v 0) (g_tup rfl (g_cons (g_tup rfl (g_cons (g_v 4 sc.nd) (g_cons (g_v 5 sc.nd) (g_nil)))) (g_cons (g_v 2 sc.nd) (g_cons (g_tup rfl (g_cons (g_v 6 sc.nd) (g_cons (g_v 7 sc.nd) (g_nil)))) (g_nil))))))
    (ss_cons (s_asg (e_v 1) (g_tup rfl (g_cons (g_tup rfl (g_cons (g_v 8 sc.nd) (g_cons (g_v 9 sc.nd) (g_nil)))) (g_cons (g_v 3 sc.nd) (g_cons (g_tup rfl (g_cons (g_v 10 sc.nd) (g_cons (g_v 11 sc.nd) (g_nil)))) (g_nil))))))
    (ss_cons (s_if (t_w (w_and (t_cm (op_eqX hr.units) rr_eq (e_v 2) (e_i)) (w_and1 (t_cm (op_eqX hr.units) rr_eq (e_v 3) (e_i))))) (ss_one (s_ret (e_call (h_sign_of c) (hr.mono (by decide)) (a_cons (e_sub (e_mul (e_v 4) (e_v 9)) (e_mul (e_v 8) (e_v 5))) (a_nil))))) (ss_nil))
    (ss_one (s_ret (e_call (h_sign_of_two c) (hr.mono (by decide)) (a_cons (e_mul (e_mul (e_sub (e_mul (e_v 4) (e_v 9)) (e_mul (e_v 8) (e_v 5))) (e_v 7)) (e_v 11)) (a_cons (e_mul (e_mul (e_mul (e_v 2) (e_v 5)) (e_v 9)) (e_v 11)) (a_cons (e_mul (e_v 6) (e_v 7)) (a_cons (e_mul (e_mul (e_mul (e_neg (e_v 3)) (e_v 5)) (e_v 9)) (e_v 7)) (a_cons (e_mul (e_v 10) (e_v 11)) (a_nil)))))))))))⟩
theorem sc_lower_surd : FnScope ["one", "two"] ["one", "two"] (defScope (topS 34)) := ⟨rfl, rfl, rfl, by decide +kernel, rfl, by decide +kernel, by decide +kernel⟩
theorem h_lower_surd (c : Fx P w K mg base) : Has P w K mg base "lower_surd" 5 2 G_lower_surd := by
  obtain ⟨fd, hm, F⟩ := c.d_lower_surd
  have sc := sc_lower_surd
  exact has_of hm F sc (fun _ _ _ _ _ _ us hl => match us, hl with | [_, _], _ => rfl) fun cdv A outer s H E hr => ⟨_,
    ss_one (s_ret (e_if (t_cm op_lt rr_lt (e_call (h_compared c) (hr.mono (by decide)) (a_cons (e_v 1) (a_cons (e_v 0) (a_nil)))) (e_i)) (e_v 1) (e_v 0)))⟩
theorem sc_higher_surd : FnScope ["one", "two"] ["one", "two"] (defScope (topS 35)) := ⟨rfl, rfl, rfl, by decide +kernel, rfl, by decide +kernel, by decide +kernel⟩
theorem h_higher_surd (c : Fx P w K mg base) : Has P w K mg base "higher_surd" 5 2 G_higher_surd := by
  obtain ⟨fd, hm, F⟩ := c.d_higher_surd
  have sc := sc_higher_surd
  exact has_of hm F sc (fun _ _ _ _ _ _ us hl => match us, hl with | [_, _], _ => rfl) fun cdv A outer s H E hr => ⟨_,
    ss_one (s_ret (e_if (t_cm op_lt rr_lt (e_call (h_compared c) (hr.mono (by decide)) (a_cons (e_v 0) (a_cons (e_v 1) (a_nil)))) (e_i)) (e_v 1) (e_v 0)))⟩
theorem sc_bent_less : FnScope ["one", "two", "first", "second"] ["one", "two"] (defScope (topS 37)) := ⟨rfl, rfl, rfl, by decide +kernel, rfl, by decide +kernel, by decide +kernel⟩
theorem h_bent_less (c : Fx P w K mg base) : Has P w K mg base "bent_less" 4 2 G_bent_less := by
  obtain ⟨fd, hm, F⟩ := c.d_bent_less
  have sc := sc_bent_less
  exact has_of hm F sc (fun _ _ _ _ _ _ us hl => match us, hl with | [_, _], _ => rfl) fun cdv A outer s H E hr => ⟨_,
    ss_one (s_ret (e_ty cr_tupleX rb_tuple b_tuple c.f_tuple (a_cons (e_lcX [("first", 2), ("second", 3)] rfl sc.nd (i_zipT c.f_zip (e_v 0) (e_v 1)) (by show blkC ["one", "two", "first", "second"] (defScope (topS 37)) _ _ = true; decide +kernel) (by decide) (fun _ _ _ _ _ => ⟨_, g_tup rfl (g_cons (g_v 2 sc.nd) (g_cons (g_v 3 sc.nd) (g_nil)))⟩) (fun _ _ _ _ _ => ⟨_, q_nil⟩) (fun _ _ _ _ _ => ⟨_, e_call (h_ratio_sum c) (hr.mono (by decide)) (a_cons (e_v 2) (a_cons (e_tup (a_cons (e_neg (e_ix (e_v 3) (e_i))) (a_cons (e_ix (e_v 3) (e_i)) (a_nil)))) (a_nil)))⟩)) (a_nil))))⟩
theorem sc_roots_of : FnScope ["bent", "under", "found", "a", "b", "f", "c", "k", "d", "l", "e", "m", "way"] ["bent"] (defScope (topS 38)) := ⟨rfl, rfl, rfl, by decide +kernel, rfl, by decide +kernel, by decide +kernel⟩
theorem h_roots_of (c : Fx P w K mg base) : Has P w K mg base "roots_of" 5 1 G_roots_of := by
  obtain ⟨fd, hm, F⟩ := c.d_roots_of
  have sc := sc_roots_of
  exact has_of hm F sc (fun _ _ _ _ _ _ us hl => match us, hl with | [_], _ => rfl) fun cdv A outer s H E hr => ⟨_,
    ss_cons (s_asg (e_v 0) (g_tup rfl (g_cons (g_tup rfl (g_cons (g_v 6 sc.nd) (g_cons (g_v 7 sc.nd) (g_nil)))) (g_cons (g_tup rfl (g_cons (g_v 8 sc.nd) (g_cons (g_v 9 sc.nd) (g_nil)))) (g_cons (g_tup rfl (g_cons (g_v 10 sc.nd) (g_cons (g_v 11 sc.nd) (g_nil)))) (g_nil))))))
    (ss_cons (s_if (t_cm (op_eqX hr.units) rr_eq (e_v 10) (e_i)) (ss_one (s_ret (e_if (t_cm (op_eqX hr.units) rr_eq (e_v 8) (e_i)) (e_lst (a_nil)) (e_lst (a_cons (e_call (h_plain c) (hr.mono (by decide)) (a_cons (e_call (h_ratio c) (hr.mono (by decide)) (a_cons (e_mul (e_neg (e_v 6)) (e_v 9)) (a_cons (e_mul (e_v 7) (e_v 8)) (a_nil)))) (a_nil))) (a_nil)))))) (ss_nil))
    (ss_cons (s_asg (e_tup (a_cons (e_mul (e_mul (e_v 10) (e_v 7)) (e_v 9)) (a_cons (e_mul (e_mul (e_v 8) (e_v 7)) (e_v 11)) (a_cons (e_mul (e_mul (e_v 6) (e_v 9)) (e_v 11)) (a_nil))))) (g_tup rfl (g_cons (g_v 3 sc.nd) (g_cons (g_v 4 sc.nd) (g_cons (g_v 5 sc.nd) (g_nil))))))
    (ss_cons (s_set 1 sc.nd (e_sub (e_mul (e_v 4) (e_v 4)) (e_mul (e_mul (e_i) (e_v 3)) (e_v 5))))
    (ss_cons (s_if (t_cm op_lt rr_lt (e_v 1) (e_i)) (ss_one (s_ret (e_lst (a_nil)))) (ss_nil))
    (ss_cons (s_if (t_cm (op_eqX hr.units) rr_eq (e_v 1) (e_i)) (ss_one (s_ret (e_lst (a_cons (e_call (h_plain c) (hr.mono (by decide)) (a_cons (e_call (h_ratio c) (hr.mono (by decide)) (a_cons (e_neg (e_v 4)) (a_cons (e_mul (e_i) (e_v 3)) (a_nil)))) (a_nil))) (a_nil))))) (ss_nil))
    (ss_cons (s_setLcX (i := 2) [("way", 12)] rfl sc.nd rfl (i_tup (e_tup (a_cons (e_neg (e_i)) (a_cons (e_i) (a_nil))))) (by show blkC ["bent", "under", "found", "a", "b", "f", "c", "k", "d", "l", "e", "m", "way"] (defScope (topS 38)) _ _ = true; decide +kernel) (by decide) (fun _ _ _ _ _ => ⟨_, g_v 12 sc.nd⟩) (fun _ _ _ _ _ => ⟨_, q_nil⟩) (fun _ _ _ _ _ => ⟨_, e_call (h_surd_from c) (hr.mono (by decide)) (a_cons (e_call (h_ratio c) (hr.mono (by decide)) (a_cons (e_neg (e_v 4)) (a_cons (e_mul (e_i) (e_v 3)) (a_nil)))) (a_cons (e_tup (a_cons (e_v 12) (a_cons (e_i) (a_nil)))) (a_cons (e_call (h_ratio c) (hr.mono (by decide)) (a_cons (e_v 1) (a_cons (e_mul (e_mul (e_i) (e_v 3)) (e_v 3)) (a_nil)))) (a_nil))))⟩))
    (ss_one (s_ret (e_v 2)))))))))⟩
end
end Sp
namespace Sp
open PySem PySem.Spec PyProof.Rows L2
section
variable {P : Program} {w : World} {K : PySem.W.Frag} {mg : Str → Option Value} {base : Heap}
theorem sc_is_asking : FnScope ["value"] ["value"] (defScope (topS 47)) := ⟨rfl, rfl, rfl, by decide +kernel, rfl, by decide +kernel, by decide +kernel⟩
theorem h_is_asking (c : Fx P w K mg base) : Has P w K mg base "is_asking" 5 1 G_is_asking := by
  obtain ⟨fd, hm, F⟩ := c.d_is_asking
  have sc := sc_is_asking
  exact has_of hm F sc (fun _ _ _ _ _ _ us hl => match us, hl with | [_], _ => rfl) fun cdv A outer s H E hr => ⟨_,
    ss_cons (s_if (t_w (w_or (t_not (t_val (e_isi (T := "tuple") (by decide) b_isi c.f_isinstance b_tuple c.f_tuple (e_v 0)))) (w_or (t_cm op_notIn_seq rr_notIn (e_bl cr_lenX rb_len b_len c.f_len (a_cons (e_v 0) (a_nil))) (e_tup (a_cons (e_i) (a_cons (e_i) (a_nil))))) (w_or1 (t_not (t_val (e_isi (T := "str") (by decide) b_isi c.f_isinstance b_str c.f_str (e_ix (e_v 0) (e_i))))))))) (ss_one (s_ret (e_b))) (ss_nil))
    (ss_cons (s_if (t_cm (op_eqX hr.units) rr_eq (e_bl cr_lenX rb_len b_len c.f_len (a_cons (e_v 0) (a_nil))) (e_i)) (ss_cons (s_if (t_cm op_in_seq rr_in (e_ix (e_v 0) (e_i)) (e_g c.PLACED)) (ss_one (s_ret (e_call (h_is_ahead c) (hr.mono (by decide)) (a_cons (e_ix (e_v 0) (e_i)) (a_nil))))) (ss_nil))
    (ss_one (s_ret (e_and (e_cm op_in_seq rr_in (e_ix (e_v 0) (e_i)) (e_g c.BENT)) (e_and (e_call (h_is_ratio c) (hr.mono (by decide)) (a_cons (e_ix (e_v 0) (e_i)) (a_nil))) (e_and1 (e_cm op_gt rr_gt (e_ix (e_ix (e_v 0) (e_i)) (e_i)) (e_i)))))))) (ss_nil))
    (ss_cons (s_if (t_cm (op_eqX hr.units) rr_eq (e_ix (e_v 0) (e_i)) (e_s "roof")) (ss_one (s_ret (e_and (e_call (h_is_ahead c) (hr.mono (by decide)) (a_cons (e_ix (e_v 0) (e_i)) (a_nil))) (e_and (e_call (h_is_ahead c) (hr.mono (by decide)) (a_cons (e_ix (e_v 0) (e_i)) (a_nil))) (e_and1 (e_call (h_is_nearer c) (hr.mono (by decide)) (a_cons (e_ix (e_v 0) (e_i)) (a_cons (e_ix (e_v 0) (e_i)) (a_nil))))))))) (ss_nil))
    (ss_one (s_ret (e_and (e_cm op_in_seq rr_in (e_ix (e_v 0) (e_i)) (e_g c.STEEP)) (e_and (e_call (h_is_ratio c) (hr.mono (by decide)) (a_cons (e_ix (e_v 0) (e_i)) (a_nil))) (e_and (e_cm op_ge rr_ge (e_ix (e_ix (e_v 0) (e_i)) (e_i)) (e_i)) (e_and1 (e_call (h_is_ratio c) (hr.mono (by decide)) (a_cons (e_ix (e_v 0) (e_i)) (a_nil)))))))))))⟩
theorem sc_is_steep : FnScope ["ask"] ["ask"] (defScope (topS 48)) := ⟨rfl, rfl, rfl, by decide +kernel, rfl, by decide +kernel, by decide +kernel⟩
theorem h_is_steep (c : Fx P w K mg base) : Has P w K mg base "is_steep" 1 1 G_is_steep := by
  obtain ⟨fd, hm, F⟩ := c.d_is_steep
  have sc := sc_is_steep
  exact has_of hm F sc (fun _ _ _ _ _ _ us hl => match us, hl with | [_], _ => rfl) fun cdv A outer s H E hr => ⟨_,
    ss_one (s_ret (e_and (e_cm op_in_seq rr_in (e_ix (e_v 0) (e_i)) (e_g c.STEEP)) (e_and1 (e_cm (op_eqX hr.units) rr_eq (e_ix (e_v 0) (e_i)) (e_g c.ZERO)))))⟩
theorem sc_is_least : FnScope ["ask"] ["ask"] (defScope (topS 49)) := ⟨rfl, rfl, rfl, by decide +kernel, rfl, by decide +kernel, by decide +kernel⟩
theorem h_is_least (c : Fx P w K mg base) : Has P w K mg base "is_least" 1 1 G_is_least := by
  obtain ⟨fd, hm, F⟩ := c.d_is_least
  have sc := sc_is_least
  exact has_of hm F sc (fun _ _ _ _ _ _ us hl => match us, hl with | [_], _ => rfl) fun cdv A outer s H E hr => ⟨_,
    ss_one (s_ret (e_cm op_in_seq rr_in (e_ix (e_v 0) (e_i)) (e_g c.LEAST)))⟩
theorem sc_line_under : FnScope ["distance", "height", "square"] ["distance", "height"] (defScope (topS 50)) := ⟨rfl, rfl, rfl, by decide +kernel, rfl, by decide +kernel, by decide +kernel⟩
theorem h_line_under (c : Fx P w K mg base) : Has P w K mg base "line_under" 4 2 G_line_under := by
  obtain ⟨fd, hm, F⟩ := c.d_line_under
  have sc := sc_line_under
  exact has_of hm F sc (fun _ _ _ _ _ _ us hl => match us, hl with | [_, _], _ => rfl) fun cdv A outer s H E hr => ⟨_,
    ss_cons (s_set 2 sc.nd (e_call (h_ratio_product c) (hr.mono (by decide)) (a_cons (e_v 0) (a_cons (e_v 0) (a_nil)))))
    (ss_one (s_ret (e_tup (a_cons (e_call (h_ratio_back c) (hr.mono (by decide)) (a_cons (e_call (h_ratio_over c) (hr.mono (by decide)) (a_cons (e_v 1) (a_cons (e_v 2) (a_nil)))) (a_nil))) (a_cons (e_call (h_ratio_over c) (hr.mono (by decide)) (a_cons (e_g c.ONE) (a_cons (e_v 0) (a_nil)))) (a_cons (e_g c.ZERO) (a_nil)))))))⟩
theorem sc_joined : FnScope ["parts", "found", "low", "high", "bent"] ["parts"] (defScope (topS 51)) := ⟨rfl, rfl, rfl, by decide +kernel, rfl, by decide +kernel, by decide +kernel⟩
theorem h_joined (c : Fx P w K mg base) : Has P w K mg base "joined" 1 1 G_joined := by
  obtain ⟨fd, hm, F⟩ := c.d_joined
  have sc := sc_joined
  exact has_of hm F sc (fun _ _ _ _ _ _ us hl => match us, hl with | [_], _ => rfl) fun cdv A outer s H E hr => ⟨_,
    ss_alloc 1 sc.nd
    (ss_cons (s_for PassesOwn.never rfl (i_lst (e_v 0)) (g_tup rfl (g_cons (g_v 2 sc.nd) (g_cons (g_v 3 sc.nd) (g_cons (g_v 4 sc.nd) (g_nil))))) (ss_one (s_if (t_w (w_and (t_neNil 1 hr.units (pv 1)) (w_and1 (t_cm (op_eqX hr.units) rr_eq (e_ix (e_ixC (e_v 1) (e_neg (e_i))) (e_i)) (e_v 4))))) (ss_one (s_setC 1 (pv 1) (e_neg (e_i)) (e_tup (a_cons (e_ix (e_ixC (e_v 1) (e_neg (e_i))) (e_i)) (a_cons (e_v 3) (a_cons (e_v 4) (a_nil))))))) (ss_one (s_app 1 (pv 1) (e_tup (a_cons (e_v 2) (a_cons (e_v 3) (a_cons (e_v 4) (a_nil))))))))))
    (ss_one (s_ret (e_v 1))))⟩
theorem sc_roof_bound : FnScope ["one", "two", "whole", "bent", "k", "m", "near", "far", "first", "last", "joint", "low", "high", "end"] ["one", "two"] (defScope (topS 52)) := ⟨rfl, rfl, rfl, by decide +kernel, rfl, by decide +kernel, by decide +kernel⟩
theorem h_roof_bound (c : Fx P w K mg base) : Has P w K mg base "roof_bound" 5 2 G_roof_bound := by
  obtain ⟨fd, hm, F⟩ := c.d_roof_bound
  have sc := sc_roof_bound
  exact has_of hm F sc (fun _ _ _ _ _ _ us hl => match us, hl with | [_, _], _ => rfl) fun cdv A outer s H E hr => ⟨_,
    ss_cons (s_asg (e_call (h_way_between c) (hr.mono (by decide)) (a_cons (e_v 0) (a_cons (e_v 1) (a_nil)))) (g_tup rfl (g_cons (g_v 4 sc.nd) (g_cons (g_v 5 sc.nd) (g_nil)))))
    (ss_cons (s_par2 6 7 sc.nd (a_cons (e_call (h_far_of c) (hr.mono (by decide)) (a_cons (e_v 0) (a_nil))) (a_cons (e_call (h_far_of c) (hr.mono (by decide)) (a_cons (e_v 1) (a_nil))) (a_nil))))
    (ss_cons (s_par2 8 9 sc.nd (a_cons (e_call (h_line_under c) (hr.mono (by decide)) (a_cons (e_v 7) (a_cons (e_call (h_tall_of c) (hr.mono (by decide)) (a_cons (e_v 1) (a_nil))) (a_nil)))) (a_cons (e_call (h_line_under c) (hr.mono (by decide)) (a_cons (e_v 6) (a_cons (e_call (h_tall_of c) (hr.mono (by decide)) (a_cons (e_v 0) (a_nil))) (a_nil)))) (a_nil))))
    (ss_cons (s_if (t_cm op_le rr_le (e_ix (e_v 4) (e_i)) (e_i)) (ss_cons (s_set 10 sc.nd (e_call (h_ratio_sum c) (hr.mono (by decide)) (a_cons (e_v 5) (a_cons (e_call (h_ratio_sum c) (hr.mono (by decide)) (a_cons (e_call (h_ratio_over c) (hr.mono (by decide)) (a_cons (e_v 4) (a_cons (e_v 6) (a_nil)))) (a_cons (e_call (h_ratio_over c) (hr.mono (by decide)) (a_cons (e_v 4) (a_cons (e_v 7) (a_nil)))) (a_nil)))) (a_nil)))))
    (ss_one (s_ret (e_call (h_joined c) (hr.mono (by decide)) (a_cons (e_lst (a_cons (e_tup (a_cons (e_n) (a_cons (e_v 10) (a_cons (e_v 8) (a_nil))))) (a_cons (e_tup (a_cons (e_v 10) (a_cons (e_n) (a_cons (e_v 9) (a_nil))))) (a_nil)))) (a_nil)))))) (ss_nil))
    (ss_cons (s_asg (e_lcX [("end", 13)] rfl sc.nd (i_tup (e_tup (a_cons (e_v 7) (a_cons (e_v 6) (a_nil))))) (by show blkC ["one", "two", "whole", "bent", "k", "m", "near", "far", "first", "last", "joint", "low", "high", "end"] (defScope (topS 52)) _ _ = true; decide +kernel) (by decide) (fun _ _ _ _ _ => ⟨_, g_v 13 sc.nd⟩) (fun _ _ _ _ _ => ⟨_, q_nil⟩) (fun _ _ _ _ _ => ⟨_, e_call (h_ratio_sum c) (hr.mono (by decide)) (a_cons (e_v 5) (a_cons (e_call (h_ratio_over c) (hr.mono (by decide)) (a_cons (e_call (h_ratio_product c) (hr.mono (by decide)) (a_cons (e_g c.TWO) (a_cons (e_v 4) (a_nil)))) (a_cons (e_v 13) (a_nil)))) (a_nil)))⟩)) (g_lst rfl (g_cons (g_v 11 sc.nd) (g_cons (g_v 12 sc.nd) (g_nil)))))
    (ss_cons (s_set 2 sc.nd (e_call (h_ratio_over c) (hr.mono (by decide)) (a_cons (e_g c.ONE) (a_cons (e_call (h_ratio_product c) (hr.mono (by decide)) (a_cons (e_g c.FOUR) (a_cons (e_v 4) (a_nil)))) (a_nil)))))
    (ss_cons (s_set 3 sc.nd (e_tup (a_cons (e_call (h_ratio_product c) (hr.mono (by decide)) (a_cons (e_v 2) (a_cons (e_call (h_ratio_product c) (hr.mono (by decide)) (a_cons (e_v 5) (a_cons (e_v 5) (a_nil)))) (a_nil)))) (a_cons (e_call (h_ratio_product c) (hr.mono (by decide)) (a_cons (e_call (h_ratio_back c) (hr.mono (by decide)) (a_cons (e_call (h_ratio_product c) (hr.mono (by decide)) (a_cons (e_g c.TWO) (a_cons (e_v 5) (a_nil)))) (a_nil))) (a_cons (e_v 2) (a_nil)))) (a_cons (e_v 2) (a_nil))))))
    (ss_one (s_ret (e_lst (a_cons (e_tup (a_cons (e_n) (a_cons (e_v 11) (a_cons (e_v 8) (a_nil))))) (a_cons (e_tup (a_cons (e_v 11) (a_cons (e_v 12) (a_cons (e_v 3) (a_nil))))) (a_cons (e_tup (a_cons (e_v 12) (a_cons (e_n) (a_cons (e_v 9) (a_nil))))) (a_nil)))))))))))))⟩
theorem sc_parts_of : FnScope ["ask", "word", "bent", "half"] ["ask"] (defScope (topS 53)) := ⟨rfl, rfl, rfl, by decide +kernel, rfl, by decide +kernel, by decide +kernel⟩
theorem h_parts_of (c : Fx P w K mg base) : Has P w K mg base "parts_of" 6 1 G_parts_of := by
  obtain ⟨fd, hm, F⟩ := c.d_parts_of
  have sc := sc_parts_of
  exact has_of hm F sc (fun _ _ _ _ _ _ us hl => match us, hl with | [_], _ => rfl) fun cdv A outer s H E hr => ⟨_,
    ss_cons (s_set 1 sc.nd (e_ix (e_v 0) (e_i)))
    (ss_cons (s_if (t_cm op_in_seq rr_in (e_v 1) (e_g c.PLACED)) (ss_one (s_ret (e_lst (a_cons (e_tup (a_cons (e_n) (a_cons (e_n) (a_cons (e_call (h_line_under c) (hr.mono (by decide)) (a_cons (e_call (h_far_of c) (hr.mono (by decide)) (a_cons (e_ix (e_v 0) (e_i)) (a_nil))) (a_cons (e_call (h_tall_of c) (hr.mono (by decide)) (a_cons (e_ix (e_v 0) (e_i)) (a_nil))) (a_nil)))) (a_nil))))) (a_nil))))) (ss_nil))
    (ss_cons (s_if (t_cm (op_eqX hr.units) rr_eq (e_v 1) (e_s "roof")) (ss_one (s_ret (e_call (h_roof_bound c) (hr.mono (by decide)) (a_cons (e_ix (e_v 0) (e_i)) (a_cons (e_ix (e_v 0) (e_i)) (a_nil)))))) (ss_nil))
    (ss_cons (s_if (t_cm (op_eqX hr.units) rr_eq (e_v 1) (e_s "low")) (ss_cons (s_set 2 sc.nd (e_tup (a_cons (e_g c.ZERO) (a_cons (e_g c.ZERO) (a_cons (e_call (h_ratio_over c) (hr.mono (by decide)) (a_cons (e_g c.ONE) (a_cons (e_call (h_ratio_product c) (hr.mono (by decide)) (a_cons (e_g c.FOUR) (a_cons (e_ix (e_v 0) (e_i)) (a_nil)))) (a_nil)))) (a_nil))))))
    (ss_one (s_ret (e_lst (a_cons (e_tup (a_cons (e_n) (a_cons (e_g c.ZERO) (a_cons (e_tup (a_cons (e_g c.ZERO) (a_cons (e_g c.ZERO) (a_cons (e_g c.ZERO) (a_nil))))) (a_nil))))) (a_cons (e_tup (a_cons (e_g c.ZERO) (a_cons (e_n) (a_cons (e_v 2) (a_nil))))) (a_nil))))))) (ss_nil))
    (ss_cons (s_if (t_cm op_in_seq rr_in (e_v 1) (e_g c.STEEP)) (ss_cons (s_if (t_cm (op_eqX hr.units) rr_eq (e_ix (e_v 0) (e_i)) (e_g c.ZERO)) (ss_one (s_ret (e_lst (a_nil)))) (ss_nil))
    (ss_cons (s_set 3 sc.nd (e_call (h_ratio_over c) (hr.mono (by decide)) (a_cons (e_g c.ONE) (a_cons (e_call (h_ratio_product c) (hr.mono (by decide)) (a_cons (e_g c.TWO) (a_cons (e_ix (e_v 0) (e_i)) (a_nil)))) (a_nil)))))
    (ss_one (s_ret (e_lst (a_cons (e_tup (a_cons (e_n) (a_cons (e_n) (a_cons (e_tup (a_cons (e_call (h_ratio_back c) (hr.mono (by decide)) (a_cons (e_call (h_ratio_product c) (hr.mono (by decide)) (a_cons (e_v 3) (a_cons (e_ix (e_v 0) (e_i)) (a_nil)))) (a_nil))) (a_cons (e_v 3) (a_cons (e_g c.ZERO) (a_nil))))) (a_nil))))) (a_nil))))))) (ss_nil))
    (ss_one (s_ret (e_lst (a_cons (e_tup (a_cons (e_n) (a_cons (e_n) (a_cons (e_tup (a_cons (e_ix (e_v 0) (e_i)) (a_cons (e_g c.ZERO) (a_cons (e_g c.ZERO) (a_nil))))) (a_nil))))) (a_nil)))))))))⟩
theorem sc_head_parts : FnScope ["head", "whole"] ["head"] (defScope (topS 54)) := ⟨rfl, rfl, rfl, by decide +kernel, rfl, by decide +kernel, by decide +kernel⟩
theorem h_head_parts (c : Fx P w K mg base) : Has P w K mg base "head_parts" 4 1 G_head_parts := by
  obtain ⟨fd, hm, F⟩ := c.d_head_parts
  have sc := sc_head_parts
  exact has_of hm F sc (fun _ _ _ _ _ _ us hl => match us, hl with | [_], _ => rfl) fun cdv A outer s H E hr => ⟨_,
    ss_cons (s_set 1 sc.nd (e_call (h_ratio_over c) (hr.mono (by decide)) (a_cons (e_g c.ONE) (a_cons (e_call (h_ratio_product c) (hr.mono (by decide)) (a_cons (e_g c.FOUR) (a_cons (e_v 0) (a_nil)))) (a_nil)))))
    (ss_one (s_ret (e_lst (a_cons (e_tup (a_cons (e_n) (a_cons (e_n) (a_cons (e_tup (a_cons (e_v 1) (a_cons (e_g c.ZERO) (a_cons (e_v 1) (a_nil))))) (a_nil))))) (a_nil)))))⟩
theorem sc_slopes_let : FnScope ["asks", "ask", "low", "high"] ["asks"] (defScope (topS 57)) := ⟨rfl, rfl, rfl, by decide +kernel, rfl, by decide +kernel, by decide +kernel⟩
theorem h_slopes_let (c : Fx P w K mg base) : Has P w K mg base "slopes_let" 2 1 G_slopes_let := by
  obtain ⟨fd, hm, F⟩ := c.d_slopes_let
  have sc := sc_slopes_let
  exact has_of hm F sc (fun _ _ _ _ _ _ us hl => match us, hl with | [_], _ => rfl) fun cdv A outer s H E hr => ⟨_,
    ss_cons (s_asg (e_tup (a_cons (e_n) (a_cons (e_n) (a_nil)))) (g_tup rfl (g_cons (g_v 2 sc.nd) (g_cons (g_v 3 sc.nd) (g_nil)))))
    (ss_cons (s_for PassesOwn.never rfl (i_tup (e_v 0)) (g_v 1 sc.nd) (ss_cons (s_if (t_w (w_and (t_val (e_call (h_is_steep c) (hr.mono (by decide)) (a_cons (e_v 1) (a_nil)))) (w_and1 (t_cm (op_eqX hr.units) rr_eq (e_ix (e_v 1) (e_i)) (e_s "climbs"))))) (ss_one (s_set 2 sc.nd (e_if (t_w (w_or (t_isN (e_v 2)) (w_or1 (t_val (e_call (h_is_lower c) (hr.mono (by decide)) (a_cons (e_v 2) (a_cons (e_ix (e_v 1) (e_i)) (a_nil)))))))) (e_ix (e_v 1) (e_i)) (e_v 2)))) (ss_nil))
    (ss_one (s_if (t_w (w_and (t_val (e_call (h_is_steep c) (hr.mono (by decide)) (a_cons (e_v 1) (a_nil)))) (w_and1 (t_cm (op_eqX hr.units) rr_eq (e_ix (e_v 1) (e_i)) (e_s "dives"))))) (ss_one (s_set 3 sc.nd (e_if (t_w (w_or (t_isN (e_v 3)) (w_or1 (t_val (e_call (h_is_lower c) (hr.mono (by decide)) (a_cons (e_ix (e_v 1) (e_i)) (a_cons (e_v 3) (a_nil)))))))) (e_ix (e_v 1) (e_i)) (e_v 3)))) (ss_nil)))))
    (ss_one (s_ret (e_tup (a_cons (e_v 2) (a_cons (e_v 3) (a_nil)))))))⟩
theorem sc_check_head : FnScope ["value"] ["value"] (defScope (topS 66)) := ⟨rfl, rfl, rfl, by decide +kernel, rfl, by decide +kernel, by decide +kernel⟩
theorem h_check_head (c : Fx P w K mg base) : Has P w K mg base "check_head" 4 1 G_check_head := by
  obtain ⟨fd, hm, F⟩ := c.d_check_head
  have sc := sc_check_head
  exact has_of hm F sc (fun _ _ _ _ _ _ us hl => match us, hl with | [_], _ => rfl) fun cdv A outer s H E hr => ⟨_,
    ss_one (s_if (t_w (w_or (t_not (t_val (e_call (h_is_ratio c) (hr.mono (by decide)) (a_cons (e_v 0) (a_nil))))) (w_or1 (t_cm op_le rr_le (e_ix (e_v 0) (e_i)) (e_i))))) (ss_never) (ss_nil))⟩
theorem sc_check_place : FnScope ["value"] ["value"] (defScope (topS 67)) := ⟨rfl, rfl, rfl, by decide +kernel, rfl, by decide +kernel, by decide +kernel⟩
theorem h_check_place (c : Fx P w K mg base) : Has P w K mg base "check_place" 5 1 G_check_place := by
  obtain ⟨fd, hm, F⟩ := c.d_check_place
  have sc := sc_check_place
  exact has_of hm F sc (fun _ _ _ _ _ _ us hl => match us, hl with | [_], _ => rfl) fun cdv A outer s H E hr => ⟨_,
    ss_one (s_if (t_not (t_val (e_call (h_is_ahead c) (hr.mono (by decide)) (a_cons (e_v 0) (a_nil))))) (ss_never) (ss_nil))⟩
theorem sc_check_asks : FnScope ["value", "index", "ask"] ["value"] (defScope (topS 68)) := ⟨rfl, rfl, rfl, by decide +kernel, rfl, by decide +kernel, by decide +kernel⟩
theorem h_check_asks (c : Fx P w K mg base) : Has P w K mg base "check_asks" 6 1 G_check_asks := by
  obtain ⟨fd, hm, F⟩ := c.d_check_asks
  have sc := sc_check_asks
  exact has_of hm F sc (fun _ _ _ _ _ _ us hl => match us, hl with | [_], _ => rfl) fun cdv A outer s H E hr => ⟨_,
    ss_cons (s_if (t_not (t_val (e_isi (T := "tuple") (by decide) b_isi c.f_isinstance b_tuple c.f_tuple (e_v 0)))) (ss_never) (ss_nil))
    (ss_one (s_for PassesOwn.never rfl (i_en c.f_enumerate (e_v 0)) (g_tup rfl (g_cons (g_v 1 sc.nd) (g_cons (g_v 2 sc.nd) (g_nil)))) (ss_one (s_if (t_w (w_or (t_cm (op_eqX hr.units) rr_eq (e_v 1) (e_g c.MOST_ASKS)) (w_or1 (t_not (t_val (e_call (h_is_asking c) (hr.mono (by decide)) (a_cons (e_v 2) (a_nil)))))))) (ss_never) (ss_nil)))))⟩
theorem sc_as_surd : FnScope ["number"] ["number"] (defScope (topS 71)) := ⟨rfl, rfl, rfl, by decide +kernel, rfl, by decide +kernel, by decide +kernel⟩
theorem h_as_surd (c : Fx P w K mg base) : Has P w K mg base "as_surd" 2 1 G_as_surd := by
  obtain ⟨fd, hm, F⟩ := c.d_as_surd
  have sc := sc_as_surd
  exact has_of hm F sc (fun _ _ _ _ _ _ us hl => match us, hl with | [_], _ => rfl) fun cdv A outer s H E hr => ⟨_,
    ss_one (s_ret (e_if (t_isN (e_v 0)) (e_n) (e_call (h_plain c) (hr.mono (by decide)) (a_cons (e_v 0) (a_nil)))))⟩
theorem sc_met : FnScope ["one", "two", "lows", "highs", "low", "high", "end"] ["one", "two"] (defScope (topS 72)) := ⟨rfl, rfl, rfl, by decide +kernel, rfl, by decide +kernel, by decide +kernel⟩
theorem h_met (c : Fx P w K mg base) : Has P w K mg base "met" 6 2 G_met := by
  obtain ⟨fd, hm, F⟩ := c.d_met
  have sc := sc_met
  exact has_of hm F sc (fun _ _ _ _ _ _ us hl => match us, hl with | [_, _], _ => rfl) fun cdv A outer s H E hr => ⟨_,
    ss_cons (s_if (t_w (w_or (t_isN (e_v 0)) (w_or1 (t_isN (e_v 1))))) (ss_one (s_ret (e_n))) (ss_nil))
    (ss_cons (s_setLcX (i := 2) [("end", 6)] rfl sc.nd rfl (i_tup (e_tup (a_cons (e_ix (e_v 0) (e_i)) (a_cons (e_ix (e_v 1) (e_i)) (a_nil))))) (by show blkC ["one", "two", "lows", "highs", "low", "high", "end"] (defScope (topS 72)) _ _ = true; decide +kernel) (by decide) (fun _ _ _ _ _ => ⟨_, g_v 6 sc.nd⟩) (fun _ _ _ _ _ => ⟨_, q_one (t_notN (e_v 6))⟩) (fun _ _ _ _ _ => ⟨_, e_v 6⟩))
    (ss_cons (s_setLcX (i := 3) [("end", 6)] rfl sc.nd rfl (i_tup (e_tup (a_cons (e_ix (e_v 0) (e_i)) (a_cons (e_ix (e_v 1) (e_i)) (a_nil))))) (by show blkC ["one", "two", "lows", "highs", "low", "high", "end"] (defScope (topS 72)) _ _ = true; decide +kernel) (by decide) (fun _ _ _ _ _ => ⟨_, g_v 6 sc.nd⟩) (fun _ _ _ _ _ => ⟨_, q_one (t_notN (e_v 6))⟩) (fun _ _ _ _ _ => ⟨_, e_v 6⟩))
    (ss_cons (s_set 4 sc.nd (e_if (t_cm (op_eqX hr.units) rr_eq (e_v 2) (e_lst (a_nil))) (e_n) (e_call (h_higher_surd c) (hr.mono (by decide)) (a_cons (e_ix (e_v 2) (e_i)) (a_cons (e_ix (e_v 2) (e_neg (e_i))) (a_nil))))))
    (ss_cons (s_set 5 sc.nd (e_if (t_cm (op_eqX hr.units) rr_eq (e_v 3) (e_lst (a_nil))) (e_n) (e_call (h_lower_surd c) (hr.mono (by decide)) (a_cons (e_ix (e_v 3) (e_i)) (a_cons (e_ix (e_v 3) (e_neg (e_i))) (a_nil))))))
    (ss_one (s_ret (e_if (t_w (w_and (t_notN (e_v 4)) (w_and (t_notN (e_v 5)) (w_and1 (t_cm op_lt rr_lt (e_call (h_compared c) (hr.mono (by decide)) (a_cons (e_v 5) (a_cons (e_v 4) (a_nil)))) (e_i)))))) (e_n) (e_tup (a_cons (e_v 4) (a_cons (e_v 5) (a_nil)))))))))))⟩
theorem sc_spread : FnScope ["one", "two", "low"] ["one", "two"] (defScope (topS 73)) := ⟨rfl, rfl, rfl, by decide +kernel, rfl, by decide +kernel, by decide +kernel⟩
theorem h_spread (c : Fx P w K mg base) : Has P w K mg base "spread" 6 2 G_spread := by
  obtain ⟨fd, hm, F⟩ := c.d_spread
  have sc := sc_spread
  exact has_of hm F sc (fun _ _ _ _ _ _ us hl => match us, hl with | [_, _], _ => rfl) fun cdv A outer s H E hr => ⟨_,
    ss_cons (s_if (t_w (w_or (t_isN (e_v 0)) (w_or1 (t_isN (e_v 1))))) (ss_one (s_ret (e_if (t_isN (e_v 0)) (e_v 1) (e_v 0)))) (ss_nil))
    (ss_cons (s_set 2 sc.nd (e_if (t_w (w_or (t_isN (e_ix (e_v 0) (e_i))) (w_or1 (t_isN (e_ix (e_v 1) (e_i)))))) (e_n) (e_call (h_lower_surd c) (hr.mono (by decide)) (a_cons (e_ix (e_v 0) (e_i)) (a_cons (e_ix (e_v 1) (e_i)) (a_nil))))))
    (ss_one (s_ret (e_tup (a_cons (e_v 2) (a_cons (e_if (t_w (w_or (t_isN (e_ix (e_v 0) (e_i))) (w_or1 (t_isN (e_ix (e_v 1) (e_i)))))) (e_n) (e_call (h_higher_surd c) (hr.mono (by decide)) (a_cons (e_ix (e_v 0) (e_i)) (a_cons (e_ix (e_v 1) (e_i)) (a_nil))))) (a_nil)))))))⟩
theorem sc_kept_side : FnScope ["bent", "roots"] ["bent"] (defScope (topS 74)) := ⟨rfl, rfl, rfl, by decide +kernel, rfl, by decide +kernel, by decide +kernel⟩
theorem h_kept_side (c : Fx P w K mg base) : Has P w K mg base "kept_side" 6 1 G_kept_side := by
  obtain ⟨fd, hm, F⟩ := c.d_kept_side
  have sc := sc_kept_side
  exact has_of hm F sc (fun _ _ _ _ _ _ us hl => match us, hl with | [_], _ => rfl) fun cdv A outer s H E hr => ⟨_,
    ss_cons (s_if (t_w (w_and (t_cm (op_eqX hr.units) rr_eq (e_ix (e_ix (e_v 0) (e_i)) (e_i)) (e_i)) (w_and1 (t_cm (op_eqX hr.units) rr_eq (e_ix (e_ix (e_v 0) (e_i)) (e_i)) (e_i))))) (ss_one (s_ret (e_if (t_cm op_ge rr_ge (e_ix (e_ix (e_v 0) (e_i)) (e_i)) (e_i)) (e_tup (a_cons (e_n) (a_cons (e_n) (a_nil)))) (e_n)))) (ss_nil))
    (ss_cons (s_set 1 sc.nd (e_call (h_roots_of c) (hr.mono (by decide)) (a_cons (e_v 0) (a_nil))))
    (ss_cons (s_if (t_cm (op_eqX hr.units) rr_eq (e_ix (e_ix (e_v 0) (e_i)) (e_i)) (e_i)) (ss_one (s_ret (e_if (t_cm op_gt rr_gt (e_ix (e_ix (e_v 0) (e_i)) (e_i)) (e_i)) (e_tup (a_cons (e_ix (e_v 1) (e_i)) (a_cons (e_n) (a_nil)))) (e_tup (a_cons (e_n) (a_cons (e_ix (e_v 1) (e_i)) (a_nil))))))) (ss_nil))
    (ss_one (s_ret (e_if (t_cm (op_eqX hr.units) rr_eq (e_v 1) (e_lst (a_nil))) (e_n) (e_tup (a_cons (e_ix (e_v 1) (e_i)) (a_cons (e_ix (e_v 1) (e_neg (e_i))) (a_nil)))))))))⟩
theorem sc_below_stretch : FnScope ["parts", "upper", "found", "low", "high", "bent", "here"] ["parts", "upper"] (defScope (topS 75)) := ⟨rfl, rfl, rfl, by decide +kernel, rfl, by decide +kernel, by decide +kernel⟩
theorem h_below_stretch (c : Fx P w K mg base) : Has P w K mg base "below_stretch" 7 2 G_below_stretch := by
  obtain ⟨fd, hm, F⟩ := c.d_below_stretch
  have sc := sc_below_stretch
  exact has_of hm F sc (fun _ _ _ _ _ _ us hl => match us, hl with | [_, _], _ => rfl) fun cdv A outer s H E hr => ⟨_,
    ss_cons (s_set 2 sc.nd (e_n))
    (ss_cons (s_for PassesOwn.never rfl (i_lst (e_v 0)) (g_tup rfl (g_cons (g_v 3 sc.nd) (g_cons (g_v 4 sc.nd) (g_cons (g_v 5 sc.nd) (g_nil))))) (ss_cons (s_set 6 sc.nd (e_call (h_met c) (hr.mono (by decide)) (a_cons (e_call (h_kept_side c) (hr.mono (by decide)) (a_cons (e_call (h_bent_less c) (hr.mono (by decide)) (a_cons (e_v 1) (a_cons (e_v 5) (a_nil)))) (a_nil))) (a_cons (e_tup (a_cons (e_call (h_as_surd c) (hr.mono (by decide)) (a_cons (e_v 3) (a_nil))) (a_cons (e_call (h_as_surd c) (hr.mono (by decide)) (a_cons (e_v 4) (a_nil))) (a_nil)))) (a_nil)))))
    (ss_one (s_set 2 sc.nd (e_call (h_spread c) (hr.mono (by decide)) (a_cons (e_v 2) (a_cons (e_v 6) (a_nil))))))))
    (ss_one (s_ret (e_v 2))))⟩
end
end Sp
namespace Sp
open PySem PySem.Spec PyProof.Rows L2
/-! ### Bounds: made, then asked -/
/-- what __init__ promises: the new instance is at x -/
def InitSp (K : PySem.W.Frag) : Sp := fun vs H Q _ => ∃ e x dx v1 v2 a b w lo up le w', vs = [.ref x, v1, v2] ∧ x ∉ e.ws ∧ H x = some (.ins (He.ga K "Bounds") dx []) ∧ Ok K (withM e x) H w ∧ Reps K (withM e x) H [a, b] [v1, v2] ∧ G_bounds [a, b] w = some (.ins lo up le, w') ∧
  ∀ H' u1 u2 u3, (∀ p o, p ∉ e.ws → p ≠ x → H p = some o → H' p = some o) → Ok K (withM e x) H' w' → H' x = some (.ins (He.ga K "Bounds") dx [("lowers", u1), ("uppers", u2), ("let", u3)]) → Rep K (withM e x) H' lo u1 → Rep K (withM e x) H' up u2 → Rep K (withM e x) H' le u3 → Q .non H'
section
variable {K : PySem.W.Frag} {e : En} {H : Hp} {w : W} {x : Addr}
theorem poke_stay {u : HO} : ∀ a o, ¬ (withM e x).M a → H a = some o → (upd H x u) a = some o := fun a o n q => by
  rw [upd_ne (fun z => n (.inr z))]
  exact q
theorem poke_rep {u : HO} {a : A} {v : V} (r : Rep K (withM e x) H a v) : Rep K (withM e x) (upd H x u) a v := Rep.less (e := withM e x) (M2 := (withM e x).M) (fun _ z => z) poke_stay a v r
theorem poke_sr {u : HO} {ss : SS} {σ : L2.St} (s : SR K (withM e x) H ss σ) : SR K (withM e x) (upd H x u) ss σ := ⟨s.1, fun i a q => by
  obtain ⟨v, h1, h2⟩ := s.2 i a q
  exact ⟨v, h1, poke_rep h2⟩⟩
theorem poke_ok {u : HO} (hx : x ∉ e.ws) (o : Ok K (withM e x) H w) : Ok K (withM e x) (upd H x u) w := by
  refine ⟨o.sub, fun p hp => ?_, o.len, o.nod, fun n p xs h1 h2 => ?_⟩
  · by_cases z : p = x
    · rw [z, upd_same]
      exact fun z => nomatch z
    · rw [upd_ne z]
      exact o.live p hp
  · obtain ⟨vs, h3, h4⟩ := o.cel n p xs h1 h2
    have hpx : p ≠ x := fun z => hx (by rw [← z]; exact List.mem_of_getElem? h1)
    exact ⟨vs, by rw [upd_ne hpx]; exact h3, Reps.less (e := withM e x) (M2 := (withM e x).M) (fun _ z => z) poke_stay xs vs h4⟩
end
theorem init_run {K : PySem.W.Frag} {N : List Str} {te1 te2 te3 te4 te5 : TE} {g1 g2 : GE} (hB1 : B_init1 = xAsg g1 (xName 3)) (hB2 : B_init2 = xAsg g2 (xName 4)) (hN : N.length = 9) (cl : Cls K (He.ga K "Bounds")) (n1 : NoAttr K (He.ga K "Bounds") "lowers") (n2 : NoAttr K (He.ga K "Bounds") "uppers") (n3 : NoAttr K (He.ga K "Bounds") "let")
    (h1 : RdE K te1 g1) (h2 : RdE K te2 g2) (h3 : RdE K te3 E_lowers) (h4 : RdE K te4 E_uppers) (h5 : RdE K te5 E_let) {vs : List V} {H : Hp} {Q : VK} {E : XK} (sp : InitSp K vs H Q E) :
    tSeq (tAsg te1 (L2.gName 3)) (tSeq (tAsg te2 (L2.gName 4)) (tSeq (sFld K (tVar 0) te3 "lowers") (tSeq (sFld K (tVar 0) te4 "uppers") (sFld K (tVar 0) te5 "let")))) { nx := fun _ H' => Q .non H', rt := Q } (L2.start N vs) H := by
  obtain ⟨e, x, dx, v1, v2, a, b, w, lo, up, le, w', rfl, hx, hxi, o, r, hg, q⟩ := sp
  obtain ⟨_, _, e1, ra, _, _, e2, rb, e3⟩ := r
  cases e1
  cases e2
  -- the start
  have es : L2.start N [V.ref x, v1, v2] = [some (V.ref x), some v1, some v2, none, none, none, none, none, none] := by
    unfold L2.start
    rw [hN]
    rfl
  rw [es]
  have sr0 : SR K (withM e x) H [none, some a, some b, none, none, none, none, none, none] [some (V.ref x), some v1, some v2, none, none, none, none, none, none] := by
    refine ⟨rfl, fun i c h => ?_⟩
    match i, h with
    | 1, h =>
      cases h
      exact ⟨v1, rfl, ra⟩
    | 2, h =>
      cases h
      exact ⟨v2, rfl, rb⟩
    | 3, h => cases h
    | 4, h => cases h
    | 5, h => cases h
    | 6, h => cases h
    | 7, h => cases h
    | 8, h => cases h
    | n + 9, h => cases h
  have hg2 : (match B_bounds ([none, some a, some b] ++ List.replicate (9 - 3) none) w with
    | some (.rt z w1) => some (z, w1)
    | _ => none) = some (A.ins lo up le, w') := hg
  cases hb : B_bounds ([none, some a, some b] ++ List.replicate (9 - 3) none) w with
  | none =>
    rw [hb] at hg2
    cases hg2
  | some out =>
  rw [hb] at hg2
  unfold B_bounds xSeq at hb
  rw [hB1, hB2] at hb
  obtain ⟨o1, b1, hb⟩ := Option.bind_eq_some_iff.mp hb
  unfold xAsg at b1
  obtain ⟨⟨a1, w1⟩, b2, b1⟩ := Option.bind_eq_some_iff.mp b1
  obtain ⟨s1, b3, rfl⟩ := Option.map_eq_some_iff.mp b1
  cases b3
  dsimp only at hb
  obtain ⟨o2, b4, hb⟩ := Option.bind_eq_some_iff.mp hb
  unfold xAsg at b4
  obtain ⟨⟨a2, w2⟩, b5, b4⟩ := Option.bind_eq_some_iff.mp b4
  obtain ⟨s2, b6, rfl⟩ := Option.map_eq_some_iff.mp b4
  cases b6
  dsimp only at hb
  unfold xRet xIns at hb
  obtain ⟨⟨a3, w3⟩, b7, rfl⟩ := Option.map_eq_some_iff.mp hb
  obtain ⟨⟨p1, w4⟩, b8, b7⟩ := Option.bind_eq_some_iff.mp b7
  obtain ⟨⟨p2, w5⟩, b9, b7⟩ := Option.bind_eq_some_iff.mp b7
  obtain ⟨⟨p3, w6⟩, b10, b7⟩ := Option.map_eq_some_iff.mp b7
  simp only [Prod.mk.injEq] at b7
  obtain ⟨rfl, rfl⟩ := b7
  cases hg2
  -- the walk
  refine h1 (withM e x) _ _ H w _ w1 o sr0 b2 _ fun y1 H1 x1 o1 r1 => ?_
  have sr1 := (o.sr x1 sr0).set (i := 3) r1
  refine h2 (withM e x) _ _ H1 w1 _ w2 o1 sr1 b5 _ fun y2 H2 x2 o2 r2 => ?_
  have sr2 := (o1.sr x2 sr1).set (i := 4) r2
  refine h3 (withM e x) _ _ H2 w2 _ w4 o2 sr2 b8 _ fun y3 H3 x3 o3 r3 => ?_
  have hx3 : H3 x = some (.ins (He.ga K "Bounds") dx []) := x3 _ _ hx (x2 _ _ hx (x1 _ _ hx hxi))
  refine ⟨.ref x, rfl, x, _, dx, [], rfl, hx3, cl, n1, by decide, ?_⟩
  have o4 := poke_ok (u := .ins (He.ga K "Bounds") dx (putF "lowers" y3 [])) hx o3
  have sr4 := poke_sr (u := .ins (He.ga K "Bounds") dx (putF "lowers" y3 [])) (o2.sr x3 sr2)
  have r34 := poke_rep (u := .ins (He.ga K "Bounds") dx (putF "lowers" y3 [])) r3
  refine h4 (withM e x) _ _ _ w4 _ w5 o4 sr4 b9 _ fun y4 H5 x5 o5 r5 => ?_
  have hx5 : H5 x = some (.ins (He.ga K "Bounds") dx [("lowers", y3)]) := x5 _ _ hx upd_same
  refine ⟨.ref x, rfl, x, _, dx, _, rfl, hx5, cl, n2, by simp, ?_⟩
  have o6 := poke_ok (u := .ins (He.ga K "Bounds") dx (putF "uppers" y4 [("lowers", y3)])) hx o5
  have sr6 := poke_sr (u := .ins (He.ga K "Bounds") dx (putF "uppers" y4 [("lowers", y3)])) (o4.sr x5 sr4)
  have r46 := poke_rep (u := .ins (He.ga K "Bounds") dx (putF "uppers" y4 [("lowers", y3)])) (o4.rep x5 r34)
  have r56 := poke_rep (u := .ins (He.ga K "Bounds") dx (putF "uppers" y4 [("lowers", y3)])) r5
  refine h5 (withM e x) _ _ _ w5 _ _ o6 sr6 b10 _ fun y5 H7 x7 o7 r7 => ?_
  have hx7 : H7 x = some (.ins (He.ga K "Bounds") dx [("lowers", y3), ("uppers", y4)]) := x7 _ _ hx upd_same
  refine ⟨.ref x, rfl, x, _, dx, _, rfl, hx7, cl, n3, by simp, ?_⟩
  refine q _ y3 y4 y5 (fun p ob np nx z => ?_) (poke_ok hx o7) upd_same (poke_rep (o6.rep x7 r46)) (poke_rep (o6.rep x7 r56)) (poke_rep r7)
  rw [upd_ne nx]
  refine x7 _ _ np ?_
  rw [upd_ne nx]
  refine x5 _ _ np ?_
  rw [upd_ne nx]
  exact x3 _ _ np (x2 _ _ np (x1 _ _ np z))
theorem init_all {X : Cx} {s1 : Stmt} {o1 : List Nat} {xg : GG} {gt : GT} {ge g2 : GE} {te2 te3 te4 te5 : TE} {e2 e3 e4 e5 : Expr} {px pq3 pq4 pq5 pp3 pp4 pp5 p2 p3 p4 p5 : Pos} {N : List Str} (hN9 : N.length = 9) (hNN : X.N = N) (hB1 : B_init1 = xAsg (xLc (yEnum (xVar 2)) xg gt ge [5, 6]) (xName 3)) (hB2 : B_init2 = xAsg g2 (xName 4)) (cl : Cls X.K (He.ga X.K "Bounds")) (n1 : NoAttr X.K (He.ga X.K "Bounds") "lowers") (n2 : NoAttr X.K (He.ga X.K "Bounds") "uppers") (n3 : NoAttr X.K (He.ga X.K "Bounds") "let") (ho : ∀ j ∈ o1, j ∈ [5, 6]) (hN : X.N.Nodup)
    (h1 : LS X s1 (tAsg (tLc (tEnumT X.K (tCons (tVar 2) tNil)) (cnG X.K o1 xg) (cnT X.K gt) (cnE X.K ge) [5, 6]) (L2.gName 3)) (xAsg (xLc (yEnum (xVar 2)) xg gt ge [5, 6]) (xName 3)))
    (h2 : LE X e2 te2 g2) (h3 : LE X e3 te3 E_lowers) (h4 : LE X e4 te4 E_uppers) (h5 : LE X e5 te5 E_let)
    (k1 : X.N[4]? = some ("first" : Str) := by rfl) (k2 : Loc X.env.scope "first" := by first | exact Or.inl rfl | exact Or.inr rfl) (k3 : swapsWith e2 (some (.Name "first" px)) p2.line X.env = pure false := by rfl) (k4 : X.fn "first" = true ∨ X.env.scope.names.lookup ("first" : Str) = some .local := by first | exact .inl rfl | exact .inr rfl)
    (k5 : X.N[0]? = some ("self" : Str) := by rfl) (k6 : Vis X.env.scope "self" := by first | exact Or.inl rfl | exact Or.inr (Or.inl rfl) | exact Or.inr (Or.inr rfl))
    (k7 : swapsWith e3 (some (.Attribute (.Name "self" pq3) "lowers" pp3)) p3.line X.env = pure false := by rfl) (k8 : swapsWith e4 (some (.Attribute (.Name "self" pq4) "uppers" pp4)) p4.line X.env = pure false := by rfl) (k9 : swapsWith e5 (some (.Attribute (.Name "self" pq5) "let" pp5)) p5.line X.env = pure false := by rfl) :
    ∃ t, PSs X [s1, .Assign [.Name "first" px] e2 p2, .Assign [.Attribute (.Name "self" pq3) "lowers" pp3] e3 p3, .Assign [.Attribute (.Name "self" pq4) "uppers" pp4] e4 p4, .Assign [.Attribute (.Name "self" pq5) "let" pp5] e5 p5] t ∧ ∀ {vs : List V} {H : Hp} {Q : VK} {E : XK}, InitSp X.K vs H Q E → t { nx := fun _ H' => Q .non H', rt := Q } (L2.start N vs) H :=
  ⟨_, pss_cons h1.pe (pss_cons (ps_set hN k1 k2 h2.pe k3 k4) (pss_cons (ps_fld (pv 0 k5 k6) h3.pe k7) (pss_cons (ps_fld (pv 0 k5 k6) h4.pe k8) (pss_one (ps_fld (pv 0 k5 k6) h5.pe k9))))),
    fun sp => init_run hB1 hB2 hN9 cl n1 n2 n3 (rd_lc (ri_en rd_var) cnG_rd ho cnT_rd cnE_rd) h2.rd h3.rd h4.rd h5.rd sp⟩
section
variable {P : Program} {w : World} {K : PySem.W.Frag} {mg : Str → Option Value} {base : Heap}
abbrev NI : List Str := ["self", "head", "asks", "placed", "first", "index", "ask", "parts", "least"]
abbrev NS : List Str := ["self", "found", "low", "high", "index", "parts", "place", "upper"]
theorem sc_init : FnScope NI ["self", "head", "asks"] (defScope (inClass (topS 76) 0)) := ⟨rfl, rfl, rfl, by decide +kernel, rfl, by decide +kernel, by decide +kernel⟩
theorem sc_stretch : FnScope NS ["self"] (defScope (inClass (topS 76) 1)) := ⟨rfl, rfl, rfl, by decide +kernel, rfl, by decide +kernel, by decide +kernel⟩
theorem k_init (c : Fx P w K mg base) : ∃ fd, FnOk P w K mg base CX0 7 (He.ma K (He.ga K "Bounds") "__init__") fd ["self", "head", "asks"] (InitSp K) ∧ Binds K fd ["self", "head", "asks"] [] := by
  obtain ⟨fd, F⟩ := c.d_init
  have sc := sc_init
  refine ⟨fd, F.ok sc (fun vs H Q E q => ?_) fun cdv A outer s H vs Q E hr hsp => ?_, F.bindsN fun _ _ _ _ _ _ us hl => match us, hl with | [_, _, _], _ => rfl⟩
  · obtain ⟨e, x, dx, v1, v2, _, _, _, _, _, _, _, rfl, _⟩ := q
    rfl
  · have step : ∃ t, PSs (cxOf CX0 P w K mg base NI "Bounds.__init__" (defScope (inClass (topS 76) 0)) (He.ma K (He.ga K "Bounds") "__init__") cdv A outer s H E).nox (defBody (inClass (topS 76) 0)) t ∧ ∀ {vs : List V} {H : Hp} {Q : VK} {E : XK}, InitSp K vs H Q E → t { nx := fun _ H' => Q .non H', rt := Q } (L2.start NI vs) H :=
      init_all (o1 := [5, 6]) rfl rfl rfl rfl c.cls c.no_lowers c.no_uppers c.no_let (by decide) sc.nd (s_setLcX (i := 3) [("index", 5), ("ask", 6)] rfl sc.nd rfl (i_en c.f_enumerate (e_v 2)) (by show blkC ["self", "head", "asks", "placed", "first", "index", "ask", "parts", "least"] (defScope (inClass (topS 76) 0)) _ _ = true; decide +kernel) (by decide) (fun _ _ _ _ _ => ⟨_, g_tup rfl (g_cons (g_v 5 sc.nd) (g_cons (g_v 6 sc.nd) (g_nil)))⟩) (fun _ _ _ _ _ => ⟨_, q_one (t_not (t_val (e_call (h_is_steep c) (hr.mono (by decide)) (a_cons (e_v 6) (a_nil)))))⟩) (fun _ _ _ _ _ => ⟨_, e_tup (a_cons (e_v 5) (a_cons (e_call (h_parts_of c) (hr.mono (by decide)) (a_cons (e_v 6) (a_nil))) (a_cons (e_call (h_is_least c) (hr.mono (by decide)) (a_cons (e_v 6) (a_nil))) (a_nil))))⟩)) (e_if (t_isN (e_v 1)) (e_lst (a_cons (e_tup (a_cons (e_n) (a_cons (e_n) (a_cons (e_g c.NOTHING) (a_nil))))) (a_nil))) (e_call (h_head_parts c) (hr.mono (by decide)) (a_cons (e_v 1) (a_nil)))) (e_add (e_lst (a_cons (e_tup (a_cons (e_n) (a_cons (e_v 4) (a_nil)))) (a_nil))) (e_lcX [("index", 5), ("parts", 7), ("least", 8)] rfl sc.nd (i_lst (e_v 3)) (by show blkC ["self", "head", "asks", "placed", "first", "index", "ask", "parts", "least"] (defScope (inClass (topS 76) 0)) _ _ = true; decide +kernel) (by decide) (fun _ _ _ _ _ => ⟨_, g_tup rfl (g_cons (g_v 5 sc.nd) (g_cons (g_v 7 sc.nd) (g_cons (g_v 8 sc.nd) (g_nil))))⟩) (fun _ _ _ _ _ => ⟨_, q_one (t_val (e_v 8))⟩) (fun _ _ _ _ _ => ⟨_, e_tup (a_cons (e_v 5) (a_cons (e_v 7) (a_nil)))⟩))) (e_lcX [("index", 5), ("parts", 7), ("least", 8)] rfl sc.nd (i_lst (e_v 3)) (by show blkC ["self", "head", "asks", "placed", "first", "index", "ask", "parts", "least"] (defScope (inClass (topS 76) 0)) _ _ = true; decide +kernel) (by decide) (fun _ _ _ _ _ => ⟨_, g_tup rfl (g_cons (g_v 5 sc.nd) (g_cons (g_v 7 sc.nd) (g_cons (g_v 8 sc.nd) (g_nil))))⟩) (fun _ _ _ _ _ => ⟨_, q_one (t_not (t_val (e_v 8)))⟩) (fun _ _ _ _ _ => ⟨_, e_tup (a_cons (e_v 5) (a_cons (e_ix (e_ix (e_v 7) (e_i)) (e_i)) (a_nil)))⟩)) (e_call (h_slopes_let c) (hr.mono (by decide)) (a_cons (e_v 2) (a_nil)))
    obtain ⟨t, h1, h2⟩ := step
    exact ⟨t, PSs.nox h1, h2 hsp⟩
theorem k_stretch (c : Fx P w K mg base) : ∃ fd, FnOk P w K mg base CX0 8 (He.ma K (He.ga K "Bounds") "stretch") fd ["self"] (spG K 1 G_stretch) ∧ Binds K fd ["self"] [] := by
  obtain ⟨fd, F⟩ := c.d_stretch
  have sc := sc_stretch
  refine ⟨fd, F.ok sc (fun vs H Q E q => q.1) fun cdv A outer s H vs Q E hr hsp => ?_, F.bindsN fun _ _ _ _ _ _ us hl => match us, hl with | [_], _ => rfl⟩
  have step : ∃ t, LSs (cxOf CX0 P w K mg base NS "Bounds.stretch" (defScope (inClass (topS 76) 1)) (He.ma K (He.ga K "Bounds") "stretch") cdv A outer s H E).nox (defBody (inClass (topS 76) 1)) t B_stretch := ⟨_, ss_cons (s_asg (e_fld_let c (e_v 0)) (g_tup rfl (g_cons (g_v 2 sc.nd) (g_cons (g_v 3 sc.nd) (g_nil)))))
    (ss_cons (s_set 1 sc.nd (e_call (h_met c) (hr.mono (by decide)) (a_cons (e_tup (a_cons (e_call (h_as_surd c) (hr.mono (by decide)) (a_cons (e_v 2) (a_nil))) (a_cons (e_n) (a_nil)))) (a_cons (e_tup (a_cons (e_n) (a_cons (e_call (h_as_surd c) (hr.mono (by decide)) (a_cons (e_v 3) (a_nil))) (a_nil)))) (a_nil)))))
    (ss_cons (s_for PassesOwn.never rfl (i_lst (e_fld_lowers c (e_v 0))) (g_tup rfl (g_cons (g_v 4 sc.nd) (g_cons (g_v 5 sc.nd) (g_nil)))) (ss_one (s_for PassesOwn.never rfl (i_lst (e_fld_uppers c (e_v 0))) (g_tup rfl (g_cons (g_v 6 sc.nd) (g_cons (g_v 7 sc.nd) (g_nil)))) (ss_one (s_set 1 sc.nd (e_call (h_met c) (hr.mono (by decide)) (a_cons (e_v 1) (a_cons (e_call (h_below_stretch c) (hr.mono (by decide)) (a_cons (e_v 5) (a_cons (e_v 7) (a_nil)))) (a_nil)))))))))
    (ss_one (s_ret (e_v 1)))))⟩
  obtain ⟨t, ht⟩ := step
  exact ⟨t, PSs.nox ht.pe, def_run ht.rd hsp⟩
end
/-! ### slopes_of -/
section
variable {X : Cx}
theorem e_slopes {pos p p1 ap : Pos} {a b : Expr} {ta tb : TE} {ga gb : GE} (c : Fx X.prog X.w X.K X.mg X.base) (hr : Room 8 X.A) (ha : LE X a ta ga) (hb : LE X b tb gb) (hg : Gl X "Bounds" := by rfl)
    (he1 : starEach [a, b] X.env = (false, eval a X.env) :: starEach [b] X.env := by rfl) (he2 : starEach [b] X.env = (false, eval b X.env) :: starEach [] X.env := by rfl) (hpl : (backTo p1 (starEach [b] X.env)).any (·.1) = false := by rfl)
    {pl : Sem Bool} (ht : eval (.Call (.Attribute (.Call (.Name "Bounds" p) [a, b] [] p1) "stretch" ap) [] [] pos) X.env = (do
      let ov ← eval (.Call (.Name "Bounds" p) [a, b] [] p1) X.env
      standAt ap.atName
      let (f, first) ← holding [ov] (getMethod ov "stretch" pl)
      callWith pos f first (backTo pos (starEach [] X.env)) (backToKw pos (keywordEach [] X.env))) := by rfl) :
    ∃ t, LE X (.Call (.Attribute (.Call (.Name "Bounds" p) [a, b] [] p1) "stretch" ap) [] [] pos) t (xCall G_slopes0 (xConsA ga (xConsA gb xNilA))) := by
  obtain ⟨fd1, F1, B1⟩ := k_init c
  obtain ⟨fd2, F2, B2⟩ := k_stretch c
  refine ⟨_, pe_meth0 (pl := pl) (pe_make (E := E0) c.mk_ F1 (hr.mono (by decide)) hg c.Bounds B1 .nil pass0 (pa_cons ha.pe (pa_cons hb.pe pa_nil he2) he1) (by decide) he1 hpl) c.cls c.stretch_ F2 hr B2 .nil (E := E0) pass0 ht, ?_⟩
  intro en σ ss H w z w' o s h Q q
  unfold xCall at h
  obtain ⟨⟨as, w1⟩, h1, h⟩ := Option.bind_eq_some_iff.mp h
  unfold tMeth tMake
  refine rd_consA ha.rd (rd_consA hb.rd rd_nilA) en σ ss H w as w1 o s h1 _ fun vs H1 x1 o1 r1 => ?_
  intro x dx hx hdx hne
  unfold G_slopes0 at h
  obtain ⟨⟨bo, w2⟩, h2, h3⟩ := Option.bind_eq_some_iff.mp h
  have hab : ∃ a b, as = [a, b] := by
    match as, h2 with
    | [a, b], _ => exact ⟨_, _, rfl⟩
    | [], h2 => cases h2
    | [_], h2 => cases h2
    | _ :: _ :: _ :: _, h2 => cases h2
  obtain ⟨a, b, rfl⟩ := hab
  obtain ⟨v1, v2, rfl, ra, rb⟩ := reps2 r1
  have hins : ∃ lo up le, bo = .ins lo up le := by
    unfold G_bounds xDefO at h2
    dsimp only at h2
    split at h2
    · rename_i z1 w1' hz
      cases h2
      unfold B_bounds xSeq at hz
      obtain ⟨oo, _, hz⟩ := Option.bind_eq_some_iff.mp hz
      have hret : ∀ ss w, xRet (xIns E_lowers E_uppers E_let) ss w = some (Out.rt bo w2) → ∃ lo up le, bo = .ins lo up le := fun ss w hh => by
        unfold xRet xIns at hh
        obtain ⟨⟨c1, c2⟩, hh1, hh2⟩ := Option.map_eq_some_iff.mp hh
        obtain ⟨d1, _, hh1⟩ := Option.bind_eq_some_iff.mp hh1
        obtain ⟨d2, _, hh1⟩ := Option.bind_eq_some_iff.mp hh1
        obtain ⟨d3, _, hh1⟩ := Option.map_eq_some_iff.mp hh1
        cases hh1
        cases hh2
        exact ⟨_, _, _, rfl⟩
      unfold B_init1 xAsg at *
      cases oo with
      | nx s1 w3 =>
        obtain ⟨o2, hz1, hz⟩ := Option.bind_eq_some_iff.mp hz
        cases o2 with
        | nx s2 w4 => exact hret _ _ hz
        | rt _ _ =>
          unfold B_init2 xAsg at hz1
          obtain ⟨_, _, hz1⟩ := Option.bind_eq_some_iff.mp hz1
          obtain ⟨_, _, hz1⟩ := Option.map_eq_some_iff.mp hz1
          cases hz1
        | bk _ _ => cases hz
      | rt a3 w3 =>
        rename_i hq
        obtain ⟨_, _, hq⟩ := Option.bind_eq_some_iff.mp hq
        obtain ⟨_, _, hq⟩ := Option.map_eq_some_iff.mp hq
        cases hq
      | bk _ _ => cases hz
    · cases h2
  obtain ⟨lo, up, le, rfl⟩ := hins
  have o2 : Ok X.K en (upd H1 dx (.own x)) w1 := o1.new hdx
  have hx2 : (upd H1 dx (.own x)) x = none := by
    rw [upd_ne (Ne.symm hne)]
    exact hx
  have nxw : x ∉ en.ws := fun z => o1.live x (o1.sub x z) hx
  have r2 : Reps X.K en (upd H1 dx (.own x)) [a, b] [v1, v2] := o1.reps (Xt.new hdx) ⟨v1, [v2], rfl, ra, v2, [], rfl, rb, rfl⟩
  have m2 : More en (upd H1 dx (.own x)) (withM en x).M := fun p z => by
    rcases z with z | z
    · exact .inl z
    · exact .inr (by rw [z]; exact hx2)
  have r3 : Reps X.K (withM en x) (upd (upd H1 dx (.own x)) x (.ins (He.ga X.K "Bounds") dx [])) [a, b] [v1, v2] := Reps.mono (e := ⟨en.ws, (withM en x).M⟩) (fun p h => .inl (o2.sub p h)) (Xt.new hx2) _ _ (Reps.more m2 _ _ r2)
  refine ⟨en, x, dx, v1, v2, a, b, w1, lo, up, le, w2, rfl, nxw, upd_same, o2.with hx2, r3, h2, fun H' u1 u2 u3 st ok' hx' q1 q2 q3 => ⟨rfl, x, dx, _, rfl, hx', rfl, ?_⟩⟩
  have x3 : Xt en H1 H' := fun p ob np hp => by
    refine st p ob np (ne_of_none hp hx) ?_
    rw [upd_ne (ne_of_none hp hx), upd_ne (ne_of_none hp hdx)]
    exact hp
  have back : ∀ {a : A} {v : V}, Rep X.K (withM en x) H' a v → Rep X.K en H' a v := fun r => Rep.less (e := withM en x) (M2 := en.M) (fun p z => .inl z) (fun _ _ _ z => z) _ _ r
  have ok2 : Ok X.K en H' w2 := ⟨o1.sub, fun p hp => ok'.live p (.inl hp), ok'.len, ok'.nod, fun n p xs h5 h6 => by
    obtain ⟨us, h7, h8⟩ := ok'.cel n p xs h5 h6
    exact ⟨us, h7, Reps.less (e := withM en x) (M2 := en.M) (fun p z => .inl z) (fun _ _ _ z => z) xs us h8⟩⟩
  refine ⟨rfl, en, [.ins lo up le], w2, z, w', ok2, ⟨_, [], rfl, ⟨x, dx, u1, u2, u3, rfl, ⟨fun z => o1.live x z hx, hx'⟩, back q1, back q2, back q3⟩, rfl⟩, h3, fun v H4 x4 o4 r4 => q v H4 (x1.trans (x3.trans x4)) o4 r4⟩
end
section
variable {P : Program} {w : World} {K : PySem.W.Frag} {mg : Str → Option Value} {base : Heap}
theorem sc_slopes_of : FnScope ["head", "asks"] ["head", "asks"] (defScope (topS 77)) := ⟨rfl, rfl, rfl, by decide +kernel, rfl, by decide +kernel, by decide +kernel⟩
theorem h_slopes_of (c : Fx P w K mg base) : Has P w K mg base "slopes_of" 10 2 G_slopes_of := by
  obtain ⟨fd, hm, F⟩ := c.d_slopes_of
  have sc := sc_slopes_of
  exact has_of hm F sc (fun _ _ _ _ _ _ us hl => match us, hl with | [_, _], _ => rfl) fun cdv A outer s H E hr => 
    (e_slopes c (hr.mono (by decide)) (e_v 0) (e_v 1)).elim fun _ h => ⟨_, ss_one (s_ret h)⟩
end
end Sp
namespace Sp
open PySem PySem.Spec PyProof.Rows L2
section
variable {P : Program} {w : World} {K : PySem.W.Frag} {mg : Str → Option Value} {base : Heap}
theorem sc_check_target : FnScope ["head", "asks", "place"] ["head", "asks", "place"] (defScope (topS 79)) := ⟨rfl, rfl, rfl, by decide +kernel, rfl, by decide +kernel, by decide +kernel⟩
theorem h_check_target (c : Fx P w K mg base) : Has P w K mg base "check_target" 7 3 G_check_target := by
  obtain ⟨fd, hm, F⟩ := c.d_check_target
  have sc := sc_check_target
  exact has_of hm F sc (fun _ _ _ _ _ _ us hl => match us, hl with | [_, _, _], _ => rfl) fun cdv A outer s H E hr => ⟨_,
    ss_cons (s_drop (e_call (h_check_head c) (hr.mono (by decide)) (a_cons (e_v 0) (a_nil))))
    (ss_cons (s_drop (e_call (h_check_asks c) (hr.mono (by decide)) (a_cons (e_v 1) (a_nil))))
    (ss_one (s_drop (e_call (h_check_place c) (hr.mono (by decide)) (a_cons (e_v 2) (a_nil))))))⟩
theorem sc_with_place : FnScope ["asks", "place"] ["asks", "place"] (defScope (topS 80)) := ⟨rfl, rfl, rfl, by decide +kernel, rfl, by decide +kernel, by decide +kernel⟩
theorem h_with_place (c : Fx P w K mg base) : Has P w K mg base "with_place" 1 2 G_with_place := by
  obtain ⟨fd, hm, F⟩ := c.d_with_place
  have sc := sc_with_place
  exact has_of hm F sc (fun _ _ _ _ _ _ us hl => match us, hl with | [_, _], _ => rfl) fun cdv A outer s H E hr => ⟨_,
    ss_one (s_ret (e_tup (a_star (e_v 0) (a_cons (e_tup (a_cons (e_s "over") (a_cons (e_v 1) (a_nil)))) (a_cons (e_tup (a_cons (e_s "under") (a_cons (e_v 1) (a_nil)))) (a_nil))))))⟩
theorem sc_is_guard : FnScope ["value"] ["value"] (defScope (topS 84)) := ⟨rfl, rfl, rfl, by decide +kernel, rfl, by decide +kernel, by decide +kernel⟩
theorem h_is_guard (c : Fx P w K mg base) : Has P w K mg base "is_guard" 5 1 G_is_guard := by
  obtain ⟨fd, hm, F⟩ := c.d_is_guard
  have sc := sc_is_guard
  exact has_of hm F sc (fun _ _ _ _ _ _ us hl => match us, hl with | [_], _ => rfl) fun cdv A outer s H E hr => ⟨_,
    ss_cons (s_if (t_w (w_or (t_not (t_val (e_isi (T := "tuple") (by decide) b_isi c.f_isinstance b_tuple c.f_tuple (e_v 0)))) (w_or (t_cm (op_neX hr.units) rr_ne (e_bl cr_lenX rb_len b_len c.f_len (a_cons (e_v 0) (a_nil))) (e_i)) (w_or (t_not (t_val (e_isi (T := "str") (by decide) b_isi c.f_isinstance b_str c.f_str (e_ix (e_v 0) (e_i))))) (w_or1 (t_notPassed c (e_ix (e_v 0) (e_i)))))))) (ss_one (s_ret (e_b))) (ss_nil))
    (ss_one (s_ret (e_call (h_is_ahead c) (hr.mono (by decide)) (a_cons (e_ix (e_v 0) (e_i)) (a_nil)))))⟩
theorem sc_check_guards : FnScope ["value", "index", "guard"] ["value"] (defScope (topS 85)) := ⟨rfl, rfl, rfl, by decide +kernel, rfl, by decide +kernel, by decide +kernel⟩
theorem h_check_guards (c : Fx P w K mg base) : Has P w K mg base "check_guards" 6 1 G_check_guards := by
  obtain ⟨fd, hm, F⟩ := c.d_check_guards
  have sc := sc_check_guards
  exact has_of hm F sc (fun _ _ _ _ _ _ us hl => match us, hl with | [_], _ => rfl) fun cdv A outer s H E hr => ⟨_,
    ss_cons (s_if (t_w (w_or (t_not (t_val (e_isi (T := "tuple") (by decide) b_isi c.f_isinstance b_tuple c.f_tuple (e_v 0)))) (w_or1 (t_cm (op_eqX hr.units) rr_eq (e_v 0) (e_tup (a_nil)))))) (ss_never) (ss_nil))
    (ss_one (s_for PassesOwn.never rfl (i_en c.f_enumerate (e_v 0)) (g_tup rfl (g_cons (g_v 1 sc.nd) (g_cons (g_v 2 sc.nd) (g_nil)))) (ss_one (s_if (t_w (w_or (t_cm (op_eqX hr.units) rr_eq (e_v 1) (e_g c.MOST_GUARDS)) (w_or1 (t_not (t_val (e_call (h_is_guard c) (hr.mono (by decide)) (a_cons (e_v 2) (a_nil)))))))) (ss_never) (ss_nil)))))⟩
theorem sc_check_guarded : FnScope ["head", "asks", "place", "guards", "guard"] ["head", "asks", "place", "guards"] (defScope (topS 86)) := ⟨rfl, rfl, rfl, by decide +kernel, rfl, by decide +kernel, by decide +kernel⟩
theorem h_check_guarded (c : Fx P w K mg base) : Has P w K mg base "check_guarded" 8 4 G_check_guarded := by
  obtain ⟨fd, hm, F⟩ := c.d_check_guarded
  have sc := sc_check_guarded
  exact has_of hm F sc (fun _ _ _ _ _ _ us hl => match us, hl with | [_, _, _, _], _ => rfl) fun cdv A outer s H E hr => ⟨_,
    ss_cons (s_drop (e_call (h_check_target c) (hr.mono (by decide)) (a_cons (e_v 0) (a_cons (e_v 1) (a_cons (e_v 2) (a_nil))))))
    (ss_cons (s_drop (e_call (h_check_guards c) (hr.mono (by decide)) (a_cons (e_v 3) (a_nil))))
    (ss_one (s_for PassesOwn.never rfl (i_tup (e_v 3)) (g_v 4 sc.nd) (ss_one (s_if (t_not (t_val (e_call (h_is_nearer c) (hr.mono (by decide)) (a_cons (e_ix (e_v 4) (e_i)) (a_cons (e_v 2) (a_nil)))))) (ss_never) (ss_nil))))))⟩
end
end Sp
namespace Sp
open PySem PySem.Spec PyProof.Rows L2
section
variable {P : Program} {w : World} {K : PySem.W.Frag} {mg : Str → Option Value} {base : Heap}
theorem sc__law_draw : FnScope ["_law_well_here", "_law_many", "_law_mixed", "_law_digit"] ["_law_well_here", "_law_many"] (defScope (topS 92)) := ⟨rfl, rfl, rfl, by decide +kernel, rfl, by decide +kernel, by decide +kernel⟩
theorem h__law_draw (c : Fx P w K mg base) : Has P w K mg base "_law_draw" 1 2 G__law_draw := by
  obtain ⟨fd, hm, F⟩ := c.d__law_draw
  have sc := sc__law_draw
  exact has_of hm F sc (fun _ _ _ _ _ _ us hl => match us, hl with | [_, _], _ => rfl) fun cdv A outer s H E hr => ⟨_,
    ss_cons (s_if (t_cm op_gt rr_gt (e_ixC (e_v 0) (e_i)) (e_i)) (ss_cons (s_divC 0 0 3 sc.nd (pv 0) c.f_divmod (e_ixC (e_v 0) (e_i)) (e_v 1))
    (ss_one (s_ret (e_v 3)))) (ss_nil))
    (ss_cons (s_setC 0 (pv 0) (e_i) (e_add (e_ixC (e_v 0) (e_i)) (e_i)))
    (ss_cons (s_set 2 sc.nd (e_mod (e_ty cr_intX rb_int b_int c.f_int (a_cons (e_add (e_add (e_mul (e_ixC (e_v 0) (e_i)) (e_i)) (e_mul (e_i) (e_ixC (e_v 0) (e_i)))) (e_i)) (a_nil))) (e_i)))
    (ss_cons (s_setC 0 (pv 0) (e_i) (e_mod (e_ty cr_intX rb_int b_int c.f_int (a_cons (e_add (e_mul (e_v 2) (e_add (e_mod (e_ty cr_intX rb_int b_int c.f_int (a_cons (e_v 2) (a_nil))) (e_i)) (e_i))) (e_mul (e_i) (e_ixC (e_v 0) (e_i)))) (a_nil))) (e_i)))
    (ss_one (s_ret (e_mod (e_ty cr_intX rb_int b_int c.f_int (a_cons (e_div (e_ixC (e_v 0) (e_i)) (e_i)) (a_nil))) (e_v 1)))))))⟩
theorem sc__law_rounds : FnScope ["_law_script", "_law_least", "_law_most"] ["_law_script", "_law_least", "_law_most"] (defScope (topS 93)) := ⟨rfl, rfl, rfl, by decide +kernel, rfl, by decide +kernel, by decide +kernel⟩
theorem h__law_rounds (c : Fx P w K mg base) : Has P w K mg base "_law_rounds" 1 3 G__law_rounds := by
  obtain ⟨fd, hm, F⟩ := c.d__law_rounds
  have sc := sc__law_rounds
  exact has_of hm F sc (fun _ _ _ _ _ _ us hl => match us, hl with | [_, _, _], _ => rfl) fun cdv A outer s H E hr => ⟨_,
    ss_one (s_ret (e_bl (cr_maxX rfl) rb_max b_max c.f_max (a_cons (e_v 1) (a_cons (e_bl (cr_minX rfl) rb_min b_min c.f_min (a_cons (e_bl cr_lenX rb_len b_len c.f_len (a_cons (e_v 0) (a_nil))) (a_cons (e_v 2) (a_nil)))) (a_nil)))))⟩
theorem sc__law_pick : FnScope ["_law_well_here", "_law_some"] ["_law_well_here", "_law_some"] (defScope (topS 94)) := ⟨rfl, rfl, rfl, by decide +kernel, rfl, by decide +kernel, by decide +kernel⟩
theorem h__law_pick (c : Fx P w K mg base) : Has P w K mg base "_law_pick" 2 2 G__law_pick := by
  obtain ⟨fd, hm, F⟩ := c.d__law_pick
  have sc := sc__law_pick
  exact has_of hm F sc (fun _ _ _ _ _ _ us hl => match us, hl with | [_, _], _ => rfl) fun cdv A outer s H E hr => ⟨_,
    ss_one (s_ret (e_ix (e_v 1) (e_call (h__law_draw c) (hr.mono (by decide)) (a_cons (e_v 0) (a_cons (e_bl cr_lenX rb_len b_len c.f_len (a_cons (e_v 1) (a_nil))) (a_nil))))))⟩
theorem sc__law_common : FnScope ["_law_numbers", "_law_found", "_law_number", "_law_step", "_law_one", "_law_two"] ["_law_numbers"] (defScope (topS 95)) := ⟨rfl, rfl, rfl, by decide +kernel, rfl, by decide +kernel, by decide +kernel⟩
theorem h__law_common (c : Fx P w K mg base) : Has P w K mg base "_law_common" 1 1 G__law_common := by
  obtain ⟨fd, hm, F⟩ := c.d__law_common
  have sc := sc__law_common
  exact has_of hm F sc (fun _ _ _ _ _ _ us hl => match us, hl with | [_], _ => rfl) fun cdv A outer s H E hr => ⟨_,
    ss_cons (s_set 1 sc.nd (e_i))
    (ss_cons (s_for PassesOwn.never rfl (i_tup (e_v 0)) (g_v 2 sc.nd) (ss_cons (s_par2 4 5 sc.nd (a_cons (e_v 1) (a_cons (e_bl cr_absX rb_abs b_abs c.f_abs (a_cons (e_v 2) (a_nil))) (a_nil))))
    (ss_cons (s_for PassesOwn.never rfl (i_rng1 c.f_range (e_add (e_mul (e_i) (e_bits (e_bl cr_absX rb_abs b_abs c.f_abs (a_cons (e_v 2) (a_nil))))) (e_i))) (g_v 3 sc.nd) (ss_cons (s_if (t_cm (op_eqX hr.units) rr_eq (e_v 5) (e_i)) (ss_one (s_brk)) (ss_nil))
    (ss_one (s_par2 4 5 sc.nd (a_cons (e_v 5) (a_cons (e_mod (e_ty cr_intX rb_int b_int c.f_int (a_cons (e_v 4) (a_nil))) (e_v 5)) (a_nil)))))))
    (ss_one (s_set 1 sc.nd (e_v 4))))))
    (ss_one (s_ret (e_v 1))))⟩
theorem sc__law_lean : FnScope ["_law_numbers", "_law_by", "_law_number"] ["_law_numbers"] (defScope (topS 96)) := ⟨rfl, rfl, rfl, by decide +kernel, rfl, by decide +kernel, by decide +kernel⟩
theorem h__law_lean (c : Fx P w K mg base) : Has P w K mg base "_law_lean" 2 1 G__law_lean := by
  obtain ⟨fd, hm, F⟩ := c.d__law_lean
  have sc := sc__law_lean
  exact has_of hm F sc (fun _ _ _ _ _ _ us hl => match us, hl with | [_], _ => rfl) fun cdv A outer s H E hr => ⟨_,
    ss_cons (s_set 1 sc.nd (e_bl (cr_maxX rfl) rb_max b_max c.f_max (a_cons (e_i) (a_cons (e_call (h__law_common c) (hr.mono (by decide)) (a_cons (e_v 0) (a_nil))) (a_nil)))))
    (ss_one (s_ret (e_ty cr_tupleX rb_tuple b_tuple c.f_tuple (a_cons (e_lcX [("_law_number", 2)] rfl sc.nd (i_tup (e_v 0)) (by show blkC ["_law_numbers", "_law_by", "_law_number"] (defScope (topS 96)) _ _ = true; decide +kernel) (by decide) (fun _ _ _ _ _ => ⟨_, g_v 2 sc.nd⟩) (fun _ _ _ _ _ => ⟨_, q_nil⟩) (fun _ _ _ _ _ => ⟨_, e_div (e_v 2) (e_v 1)⟩)) (a_nil)))))⟩
theorem sc__law_ratio : FnScope ["_law_n", "_law_m"] ["_law_n", "_law_m"] (defScope (topS 97)) := ⟨rfl, rfl, rfl, by decide +kernel, rfl, by decide +kernel, by decide +kernel⟩
theorem h__law_ratio (c : Fx P w K mg base) : Has P w K mg base "_law_ratio" 3 2 G__law_ratio := by
  obtain ⟨fd, hm, F⟩ := c.d__law_ratio
  have sc := sc__law_ratio
  exact has_of hm F sc (fun _ _ _ _ _ _ us hl => match us, hl with | [_, _], _ => rfl) fun cdv A outer s H E hr => ⟨_,
    ss_one (s_ret (e_if (t_cm op_gt rr_gt (e_v 1) (e_i)) (e_call (h__law_lean c) (hr.mono (by decide)) (a_cons (e_tup (a_cons (e_v 0) (a_cons (e_v 1) (a_nil)))) (a_nil))) (e_call (h__law_lean c) (hr.mono (by decide)) (a_cons (e_tup (a_cons (e_sub (e_i) (e_v 0)) (a_cons (e_sub (e_i) (e_v 1)) (a_nil)))) (a_nil)))))⟩
theorem sc__law_plus : FnScope ["_law_one", "_law_two"] ["_law_one", "_law_two"] (defScope (topS 98)) := ⟨rfl, rfl, rfl, by decide +kernel, rfl, by decide +kernel, by decide +kernel⟩
theorem h__law_plus (c : Fx P w K mg base) : Has P w K mg base "_law_plus" 4 2 G__law_plus := by
  obtain ⟨fd, hm, F⟩ := c.d__law_plus
  have sc := sc__law_plus
  exact has_of hm F sc (fun _ _ _ _ _ _ us hl => match us, hl with | [_, _], _ => rfl) fun cdv A outer s H E hr => ⟨_,
    ss_one (s_ret (e_call (h__law_ratio c) (hr.mono (by decide)) (a_cons (e_add (e_mul (e_ix (e_v 0) (e_i)) (e_ix (e_v 1) (e_i))) (e_mul (e_ix (e_v 1) (e_i)) (e_ix (e_v 0) (e_i)))) (a_cons (e_mul (e_ix (e_v 0) (e_i)) (e_ix (e_v 1) (e_i))) (a_nil)))))⟩
theorem sc__law_less : FnScope ["_law_one", "_law_two"] ["_law_one", "_law_two"] (defScope (topS 99)) := ⟨rfl, rfl, rfl, by decide +kernel, rfl, by decide +kernel, by decide +kernel⟩
theorem h__law_less (c : Fx P w K mg base) : Has P w K mg base "_law_less" 4 2 G__law_less := by
  obtain ⟨fd, hm, F⟩ := c.d__law_less
  have sc := sc__law_less
  exact has_of hm F sc (fun _ _ _ _ _ _ us hl => match us, hl with | [_, _], _ => rfl) fun cdv A outer s H E hr => ⟨_,
    ss_one (s_ret (e_call (h__law_ratio c) (hr.mono (by decide)) (a_cons (e_sub (e_mul (e_ix (e_v 0) (e_i)) (e_ix (e_v 1) (e_i))) (e_mul (e_ix (e_v 1) (e_i)) (e_ix (e_v 0) (e_i)))) (a_cons (e_mul (e_ix (e_v 0) (e_i)) (e_ix (e_v 1) (e_i))) (a_nil)))))⟩
theorem sc__law_times : FnScope ["_law_one", "_law_two"] ["_law_one", "_law_two"] (defScope (topS 100)) := ⟨rfl, rfl, rfl, by decide +kernel, rfl, by decide +kernel, by decide +kernel⟩
theorem h__law_times (c : Fx P w K mg base) : Has P w K mg base "_law_times" 4 2 G__law_times := by
  obtain ⟨fd, hm, F⟩ := c.d__law_times
  have sc := sc__law_times
  exact has_of hm F sc (fun _ _ _ _ _ _ us hl => match us, hl with | [_, _], _ => rfl) fun cdv A outer s H E hr => ⟨_,
    ss_one (s_ret (e_call (h__law_ratio c) (hr.mono (by decide)) (a_cons (e_mul (e_ix (e_v 0) (e_i)) (e_ix (e_v 1) (e_i))) (a_cons (e_mul (e_ix (e_v 0) (e_i)) (e_ix (e_v 1) (e_i))) (a_nil)))))⟩
theorem sc__law_over : FnScope ["_law_one", "_law_two"] ["_law_one", "_law_two"] (defScope (topS 101)) := ⟨rfl, rfl, rfl, by decide +kernel, rfl, by decide +kernel, by decide +kernel⟩
theorem h__law_over (c : Fx P w K mg base) : Has P w K mg base "_law_over" 4 2 G__law_over := by
  obtain ⟨fd, hm, F⟩ := c.d__law_over
  have sc := sc__law_over
  exact has_of hm F sc (fun _ _ _ _ _ _ us hl => match us, hl with | [_, _], _ => rfl) fun cdv A outer s H E hr => ⟨_,
    ss_one (s_ret (e_call (h__law_ratio c) (hr.mono (by decide)) (a_cons (e_mul (e_ix (e_v 0) (e_i)) (e_ix (e_v 1) (e_i))) (a_cons (e_mul (e_ix (e_v 0) (e_i)) (e_ix (e_v 1) (e_i))) (a_nil)))))⟩
theorem sc__law_sign : FnScope ["_law_number"] ["_law_number"] (defScope (topS 102)) := ⟨rfl, rfl, rfl, by decide +kernel, rfl, by decide +kernel, by decide +kernel⟩
theorem h__law_sign (c : Fx P w K mg base) : Has P w K mg base "_law_sign" 1 1 G__law_sign := by
  obtain ⟨fd, hm, F⟩ := c.d__law_sign
  have sc := sc__law_sign
  exact has_of hm F sc (fun _ _ _ _ _ _ us hl => match us, hl with | [_], _ => rfl) fun cdv A outer s H E hr => ⟨_,
    ss_one (s_ret (e_sub (e_ty cr_intX rb_int b_int c.f_int (a_cons (e_cm op_gt rr_gt (e_v 0) (e_i)) (a_nil))) (e_ty cr_intX rb_int b_int c.f_int (a_cons (e_cm op_lt rr_lt (e_v 0) (e_i)) (a_nil)))))⟩
theorem sc__law_root_sign : FnScope ["_law_one", "_law_two", "_law_square"] ["_law_one", "_law_two", "_law_square"] (defScope (topS 103)) := ⟨rfl, rfl, rfl, by decide +kernel, rfl, by decide +kernel, by decide +kernel⟩
theorem h__law_root_sign (c : Fx P w K mg base) : Has P w K mg base "_law_root_sign" 2 3 G__law_root_sign := by
  obtain ⟨fd, hm, F⟩ := c.d__law_root_sign
  have sc := sc__law_root_sign
  exact has_of hm F sc (fun _ _ _ _ _ _ us hl => match us, hl with | [_, _, _], _ => rfl) fun cdv A outer s H E hr => ⟨_,
    ss_one (s_ret (e_call (h__law_sign c) (hr.mono (by decide)) (a_cons (e_add (e_mul (e_v 0) (e_bl cr_absX rb_abs b_abs c.f_abs (a_cons (e_v 0) (a_nil)))) (e_mul (e_mul (e_v 1) (e_bl cr_absX rb_abs b_abs c.f_abs (a_cons (e_v 1) (a_nil)))) (e_v 2))) (a_nil))))⟩
theorem sc__law_surd_order : FnScope ["_law_one", "_law_two", "_law_roots", "_law_rest", "_law_a", "_law_b", "_law_c"] ["_law_one", "_law_two"] (defScope (topS 104)) := ⟨rfl, rfl, rfl, by decide +kernel, rfl, by decide +kernel, by decide +kernel⟩
theorem h__law_surd_order (c : Fx P w K mg base) : Has P w K mg base "_law_surd_order" 3 2 G__law_surd_order := by
  obtain ⟨fd, hm, F⟩ := c.d__law_surd_order
  have sc := sc__law_surd_order
  exact has_of hm F sc (fun _ _ _ _ _ _ us hl => match us, hl with | [_, _], _ => rfl) fun cdv A outer s H E hr => ⟨_,
    ss_cons (s_par3 4 5 6 sc.nd (a_cons (e_sub (e_mul (e_ix (e_v 0) (e_i)) (e_ix (e_v 1) (e_i))) (e_mul (e_ix (e_v 1) (e_i)) (e_ix (e_v 0) (e_i)))) (a_cons (e_mul (e_ix (e_v 0) (e_i)) (e_ix (e_v 1) (e_i))) (a_cons (e_sub (e_i) (e_mul (e_ix (e_v 1) (e_i)) (e_ix (e_v 0) (e_i)))) (a_nil)))))
    (ss_cons (s_set 2 sc.nd (e_call (h__law_sign c) (hr.mono (by decide)) (a_cons (e_add (e_mul (e_mul (e_v 5) (e_bl cr_absX rb_abs b_abs c.f_abs (a_cons (e_v 5) (a_nil)))) (e_ix (e_v 0) (e_i))) (e_mul (e_mul (e_v 6) (e_bl cr_absX rb_abs b_abs c.f_abs (a_cons (e_v 6) (a_nil)))) (e_ix (e_v 1) (e_i)))) (a_nil))))
    (ss_cons (s_if (t_cm op_ge rr_ge (e_mul (e_v 2) (e_call (h__law_sign c) (hr.mono (by decide)) (a_cons (e_v 4) (a_nil)))) (e_i)) (ss_one (s_ret (e_call (h__law_sign c) (hr.mono (by decide)) (a_cons (e_add (e_v 2) (e_mul (e_i) (e_call (h__law_sign c) (hr.mono (by decide)) (a_cons (e_v 4) (a_nil))))) (a_nil))))) (ss_nil))
    (ss_cons (s_set 3 sc.nd (e_sub (e_sub (e_mul (e_v 4) (e_v 4)) (e_mul (e_mul (e_v 5) (e_v 5)) (e_ix (e_v 0) (e_i)))) (e_mul (e_mul (e_v 6) (e_v 6)) (e_ix (e_v 1) (e_i)))))
    (ss_one (s_ret (e_mul (e_call (h__law_sign c) (hr.mono (by decide)) (a_cons (e_v 4) (a_nil))) (e_call (h__law_root_sign c) (hr.mono (by decide)) (a_cons (e_v 3) (a_cons (e_sub (e_i) (e_mul (e_mul (e_i) (e_v 5)) (e_v 6))) (a_cons (e_mul (e_ix (e_v 0) (e_i)) (e_ix (e_v 1) (e_i))) (a_nil)))))))))))⟩
theorem sc__law_plain : FnScope ["_law_part_here"] ["_law_part_here"] (defScope (topS 105)) := ⟨rfl, rfl, rfl, by decide +kernel, rfl, by decide +kernel, by decide +kernel⟩
theorem h__law_plain (c : Fx P w K mg base) : Has P w K mg base "_law_plain" 1 1 G__law_plain := by
  obtain ⟨fd, hm, F⟩ := c.d__law_plain
  have sc := sc__law_plain
  exact has_of hm F sc (fun _ _ _ _ _ _ us hl => match us, hl with | [_], _ => rfl) fun cdv A outer s H E hr => ⟨_,
    ss_one (s_ret (e_tup (a_cons (e_ix (e_v 0) (e_i)) (a_cons (e_i) (a_cons (e_i) (a_cons (e_ix (e_v 0) (e_i)) (a_nil)))))))⟩
end
end Sp
namespace Sp
open PySem PySem.Spec PyProof.Rows L2
section
variable {P : Program} {w : World} {K : PySem.W.Frag} {mg : Str → Option Value} {base : Heap}
theorem sc__law_place : FnScope ["_law_distance", "_law_height"] ["_law_distance", "_law_height"] (defScope (topS 106)) := ⟨rfl, rfl, rfl, by decide +kernel, rfl, by decide +kernel, by decide +kernel⟩
theorem h__law_place (c : Fx P w K mg base) : Has P w K mg base "_law_place" 3 2 G__law_place := by
  obtain ⟨fd, hm, F⟩ := c.d__law_place
  have sc := sc__law_place
  exact has_of hm F sc (fun _ _ _ _ _ _ us hl => match us, hl with | [_, _], _ => rfl) fun cdv A outer s H E hr => ⟨_,
    ss_one (s_ret (e_call (h__law_lean c) (hr.mono (by decide)) (a_cons (e_tup (a_cons (e_mul (e_ix (e_v 0) (e_i)) (e_ix (e_v 1) (e_i))) (a_cons (e_mul (e_ix (e_v 1) (e_i)) (e_ix (e_v 0) (e_i))) (a_cons (e_mul (e_ix (e_v 0) (e_i)) (e_ix (e_v 1) (e_i))) (a_nil))))) (a_nil))))⟩
theorem sc__law_apart : FnScope ["_law_place_here"] ["_law_place_here"] (defScope (topS 107)) := ⟨rfl, rfl, rfl, by decide +kernel, rfl, by decide +kernel, by decide +kernel⟩
theorem h__law_apart (c : Fx P w K mg base) : Has P w K mg base "_law_apart" 4 1 G__law_apart := by
  obtain ⟨fd, hm, F⟩ := c.d__law_apart
  have sc := sc__law_apart
  exact has_of hm F sc (fun _ _ _ _ _ _ us hl => match us, hl with | [_], _ => rfl) fun cdv A outer s H E hr => ⟨_,
    ss_one (s_ret (e_tup (a_cons (e_call (h__law_ratio c) (hr.mono (by decide)) (a_cons (e_ix (e_v 0) (e_i)) (a_cons (e_ix (e_v 0) (e_i)) (a_nil)))) (a_cons (e_call (h__law_ratio c) (hr.mono (by decide)) (a_cons (e_ix (e_v 0) (e_i)) (a_cons (e_ix (e_v 0) (e_i)) (a_nil)))) (a_nil)))))⟩
theorem sc__law_high : FnScope ["_law_jet_here", "_law_distance"] ["_law_jet_here", "_law_distance"] (defScope (topS 108)) := ⟨rfl, rfl, rfl, by decide +kernel, rfl, by decide +kernel, by decide +kernel⟩
theorem h__law_high (c : Fx P w K mg base) : Has P w K mg base "_law_high" 5 2 G__law_high := by
  obtain ⟨fd, hm, F⟩ := c.d__law_high
  have sc := sc__law_high
  exact has_of hm F sc (fun _ _ _ _ _ _ us hl => match us, hl with | [_, _], _ => rfl) fun cdv A outer s H E hr => ⟨_,
    ss_one (s_ret (e_call (h__law_times c) (hr.mono (by decide)) (a_cons (e_v 1) (a_cons (e_call (h__law_less c) (hr.mono (by decide)) (a_cons (e_ix (e_v 0) (e_i)) (a_cons (e_call (h__law_times c) (hr.mono (by decide)) (a_cons (e_ix (e_v 0) (e_i)) (a_cons (e_v 1) (a_nil)))) (a_nil)))) (a_nil)))))⟩
theorem sc__law_steep : FnScope ["_law_jet_here", "_law_distance"] ["_law_jet_here", "_law_distance"] (defScope (topS 109)) := ⟨rfl, rfl, rfl, by decide +kernel, rfl, by decide +kernel, by decide +kernel⟩
theorem h__law_steep (c : Fx P w K mg base) : Has P w K mg base "_law_steep" 5 2 G__law_steep := by
  obtain ⟨fd, hm, F⟩ := c.d__law_steep
  have sc := sc__law_steep
  exact has_of hm F sc (fun _ _ _ _ _ _ us hl => match us, hl with | [_, _], _ => rfl) fun cdv A outer s H E hr => ⟨_,
    ss_one (s_ret (e_call (h__law_less c) (hr.mono (by decide)) (a_cons (e_ix (e_v 0) (e_i)) (a_cons (e_call (h__law_times c) (hr.mono (by decide)) (a_cons (e_tup (a_cons (e_i) (a_cons (e_i) (a_nil)))) (a_cons (e_call (h__law_times c) (hr.mono (by decide)) (a_cons (e_ix (e_v 0) (e_i)) (a_cons (e_v 1) (a_nil)))) (a_nil)))) (a_nil)))))⟩
theorem sc__law_own_head : FnScope ["_law_jet_here"] ["_law_jet_here"] (defScope (topS 110)) := ⟨rfl, rfl, rfl, by decide +kernel, rfl, by decide +kernel, by decide +kernel⟩
theorem h__law_own_head (c : Fx P w K mg base) : Has P w K mg base "_law_own_head" 5 1 G__law_own_head := by
  obtain ⟨fd, hm, F⟩ := c.d__law_own_head
  have sc := sc__law_own_head
  exact has_of hm F sc (fun _ _ _ _ _ _ us hl => match us, hl with | [_], _ => rfl) fun cdv A outer s H E hr => ⟨_,
    ss_one (s_ret (e_call (h__law_over c) (hr.mono (by decide)) (a_cons (e_call (h__law_plus c) (hr.mono (by decide)) (a_cons (e_tup (a_cons (e_i) (a_cons (e_i) (a_nil)))) (a_cons (e_call (h__law_times c) (hr.mono (by decide)) (a_cons (e_ix (e_v 0) (e_i)) (a_cons (e_ix (e_v 0) (e_i)) (a_nil)))) (a_nil)))) (a_cons (e_call (h__law_times c) (hr.mono (by decide)) (a_cons (e_tup (a_cons (e_i) (a_cons (e_i) (a_nil)))) (a_cons (e_ix (e_v 0) (e_i)) (a_nil)))) (a_nil)))))⟩
theorem sc__law_line : FnScope ["_law_place_here", "_law_other", "_law_rise", "_law_a", "_law_c", "_law_b", "_law_d"] ["_law_place_here", "_law_other"] (defScope (topS 111)) := ⟨rfl, rfl, rfl, by decide +kernel, rfl, by decide +kernel, by decide +kernel⟩
theorem h__law_line (c : Fx P w K mg base) : Has P w K mg base "_law_line" 5 2 G__law_line := by
  obtain ⟨fd, hm, F⟩ := c.d__law_line
  have sc := sc__law_line
  exact has_of hm F sc (fun _ _ _ _ _ _ us hl => match us, hl with | [_, _], _ => rfl) fun cdv A outer s H E hr => ⟨_,
    ss_cons (s_asg (e_call (h__law_apart c) (hr.mono (by decide)) (a_cons (e_v 0) (a_nil))) (g_tup rfl (g_cons (g_v 3 sc.nd) (g_cons (g_v 4 sc.nd) (g_nil)))))
    (ss_cons (s_asg (e_call (h__law_apart c) (hr.mono (by decide)) (a_cons (e_v 1) (a_nil))) (g_tup rfl (g_cons (g_v 5 sc.nd) (g_cons (g_v 6 sc.nd) (g_nil)))))
    (ss_cons (s_set 2 sc.nd (e_call (h__law_over c) (hr.mono (by decide)) (a_cons (e_call (h__law_less c) (hr.mono (by decide)) (a_cons (e_v 6) (a_cons (e_v 4) (a_nil)))) (a_cons (e_call (h__law_less c) (hr.mono (by decide)) (a_cons (e_v 5) (a_cons (e_v 3) (a_nil)))) (a_nil)))))
    (ss_one (s_ret (e_tup (a_cons (e_call (h__law_less c) (hr.mono (by decide)) (a_cons (e_v 4) (a_cons (e_call (h__law_times c) (hr.mono (by decide)) (a_cons (e_v 2) (a_cons (e_v 3) (a_nil)))) (a_nil)))) (a_cons (e_v 2) (a_nil))))))))⟩
theorem sc__law_bound : FnScope ["_law_c", "_law_d", "_law_e", "_law_below"] ["_law_c", "_law_d", "_law_e"] (defScope (topS 112)) := ⟨rfl, rfl, rfl, by decide +kernel, rfl, by decide +kernel, by decide +kernel⟩
theorem h__law_bound (c : Fx P w K mg base) : Has P w K mg base "_law_bound" 1 3 G__law_bound := by
  obtain ⟨fd, hm, F⟩ := c.d__law_bound
  have sc := sc__law_bound
  exact has_of hm F sc (fun _ _ _ _ _ _ us hl => match us, hl with | [_, _, _], _ => rfl) fun cdv A outer s H E hr => ⟨_,
    ss_cons (s_set 3 sc.nd (e_mul (e_mul (e_ix (e_v 0) (e_i)) (e_ix (e_v 1) (e_i))) (e_ix (e_v 2) (e_i))))
    (ss_one (s_ret (e_tup (a_cons (e_mul (e_mul (e_ix (e_v 0) (e_i)) (e_ix (e_v 1) (e_i))) (e_ix (e_v 2) (e_i))) (a_cons (e_mul (e_mul (e_ix (e_v 1) (e_i)) (e_ix (e_v 0) (e_i))) (e_ix (e_v 2) (e_i))) (a_cons (e_mul (e_mul (e_ix (e_v 2) (e_i)) (e_ix (e_v 0) (e_i))) (e_ix (e_v 1) (e_i))) (a_cons (e_v 3) (a_nil))))))))⟩
theorem sc__law_place_bound : FnScope ["_law_place_here"] ["_law_place_here"] (defScope (topS 113)) := ⟨rfl, rfl, rfl, by decide +kernel, rfl, by decide +kernel, by decide +kernel⟩
theorem h__law_place_bound (c : Fx P w K mg base) : Has P w K mg base "_law_place_bound" 1 1 G__law_place_bound := by
  obtain ⟨fd, hm, F⟩ := c.d__law_place_bound
  have sc := sc__law_place_bound
  exact has_of hm F sc (fun _ _ _ _ _ _ us hl => match us, hl with | [_], _ => rfl) fun cdv A outer s H E hr => ⟨_,
    ss_one (s_ret (e_tup (a_cons (e_sub (e_i) (e_mul (e_ix (e_v 0) (e_i)) (e_ix (e_v 0) (e_i)))) (a_cons (e_mul (e_ix (e_v 0) (e_i)) (e_ix (e_v 0) (e_i))) (a_cons (e_i) (a_cons (e_mul (e_ix (e_v 0) (e_i)) (e_ix (e_v 0) (e_i))) (a_nil)))))))⟩
theorem sc__law_roof_parts : FnScope ["_law_place_here", "_law_other", "_law_first", "_law_last", "_law_four", "_law_bent", "_law_k", "_law_rise", "_law_a", "_law_b", "_law_far", "_law_close", "_law_turn"] ["_law_place_here", "_law_other"] (defScope (topS 114)) := ⟨rfl, rfl, rfl, by decide +kernel, rfl, by decide +kernel, by decide +kernel⟩
theorem h__law_roof_parts (c : Fx P w K mg base) : Has P w K mg base "_law_roof_parts" 6 2 G__law_roof_parts := by
  obtain ⟨fd, hm, F⟩ := c.d__law_roof_parts
  have sc := sc__law_roof_parts
  exact has_of hm F sc (fun _ _ _ _ _ _ us hl => match us, hl with | [_, _], _ => rfl) fun cdv A outer s H E hr => ⟨_,
    ss_cons (s_asg (e_call (h__law_line c) (hr.mono (by decide)) (a_cons (e_v 0) (a_cons (e_v 1) (a_nil)))) (g_tup rfl (g_cons (g_v 6 sc.nd) (g_cons (g_v 7 sc.nd) (g_nil)))))
    (ss_cons (s_par2 8 9 sc.nd (a_cons (e_ix (e_call (h__law_apart c) (hr.mono (by decide)) (a_cons (e_v 0) (a_nil))) (e_i)) (a_cons (e_ix (e_call (h__law_apart c) (hr.mono (by decide)) (a_cons (e_v 1) (a_nil))) (e_i)) (a_nil))))
    (ss_cons (s_par2 10 11 sc.nd (a_cons (e_call (h__law_place_bound c) (hr.mono (by decide)) (a_cons (e_v 1) (a_nil))) (a_cons (e_call (h__law_place_bound c) (hr.mono (by decide)) (a_cons (e_v 0) (a_nil))) (a_nil))))
    (ss_cons (s_if (t_cm op_le rr_le (e_ix (e_v 6) (e_i)) (e_i)) (ss_cons (s_set 12 sc.nd (e_call (h__law_plus c) (hr.mono (by decide)) (a_cons (e_v 7) (a_cons (e_call (h__law_plus c) (hr.mono (by decide)) (a_cons (e_call (h__law_over c) (hr.mono (by decide)) (a_cons (e_v 6) (a_cons (e_v 8) (a_nil)))) (a_cons (e_call (h__law_over c) (hr.mono (by decide)) (a_cons (e_v 6) (a_cons (e_v 9) (a_nil)))) (a_nil)))) (a_nil)))))
    (ss_one (s_ret (e_lst (a_cons (e_tup (a_cons (e_n) (a_cons (e_v 12) (a_cons (e_v 10) (a_nil))))) (a_cons (e_tup (a_cons (e_v 12) (a_cons (e_n) (a_cons (e_v 11) (a_nil))))) (a_nil))))))) (ss_nil))
    (ss_cons (s_set 2 sc.nd (e_call (h__law_plus c) (hr.mono (by decide)) (a_cons (e_v 7) (a_cons (e_call (h__law_over c) (hr.mono (by decide)) (a_cons (e_call (h__law_times c) (hr.mono (by decide)) (a_cons (e_tup (a_cons (e_i) (a_cons (e_i) (a_nil)))) (a_cons (e_v 6) (a_nil)))) (a_cons (e_v 9) (a_nil)))) (a_nil)))))
    (ss_cons (s_set 3 sc.nd (e_call (h__law_plus c) (hr.mono (by decide)) (a_cons (e_v 7) (a_cons (e_call (h__law_over c) (hr.mono (by decide)) (a_cons (e_call (h__law_times c) (hr.mono (by decide)) (a_cons (e_tup (a_cons (e_i) (a_cons (e_i) (a_nil)))) (a_cons (e_v 6) (a_nil)))) (a_cons (e_v 8) (a_nil)))) (a_nil)))))
    (ss_cons (s_set 4 sc.nd (e_call (h__law_times c) (hr.mono (by decide)) (a_cons (e_tup (a_cons (e_i) (a_cons (e_i) (a_nil)))) (a_cons (e_v 6) (a_nil)))))
    (ss_cons (s_set 5 sc.nd (e_call (h__law_bound c) (hr.mono (by decide)) (a_cons (e_call (h__law_over c) (hr.mono (by decide)) (a_cons (e_call (h__law_times c) (hr.mono (by decide)) (a_cons (e_v 7) (a_cons (e_v 7) (a_nil)))) (a_cons (e_v 4) (a_nil)))) (a_cons (e_call (h__law_over c) (hr.mono (by decide)) (a_cons (e_call (h__law_times c) (hr.mono (by decide)) (a_cons (e_tup (a_cons (e_neg (e_i)) (a_cons (e_i) (a_nil)))) (a_cons (e_v 7) (a_nil)))) (a_cons (e_v 4) (a_nil)))) (a_cons (e_call (h__law_over c) (hr.mono (by decide)) (a_cons (e_tup (a_cons (e_i) (a_cons (e_i) (a_nil)))) (a_cons (e_v 4) (a_nil)))) (a_nil))))))
    (ss_one (s_ret (e_lst (a_cons (e_tup (a_cons (e_n) (a_cons (e_v 2) (a_cons (e_v 10) (a_nil))))) (a_cons (e_tup (a_cons (e_v 2) (a_cons (e_v 3) (a_cons (e_v 5) (a_nil))))) (a_cons (e_tup (a_cons (e_v 3) (a_cons (e_n) (a_cons (e_v 11) (a_nil))))) (a_nil))))))))))))))⟩
theorem sc__law_parts : FnScope ["_law_ask", "_law_word", "_law_twice", "_law_some"] ["_law_ask"] (defScope (topS 115)) := ⟨rfl, rfl, rfl, by decide +kernel, rfl, by decide +kernel, by decide +kernel⟩
theorem h__law_parts (c : Fx P w K mg base) : Has P w K mg base "_law_parts" 7 1 G__law_parts := by
  obtain ⟨fd, hm, F⟩ := c.d__law_parts
  have sc := sc__law_parts
  exact has_of hm F sc (fun _ _ _ _ _ _ us hl => match us, hl with | [_], _ => rfl) fun cdv A outer s H E hr => ⟨_,
    ss_cons (s_set 1 sc.nd (e_ix (e_v 0) (e_i)))
    (ss_cons (s_if (t_w (w_or (t_cm (op_eqX hr.units) rr_eq (e_v 1) (e_s "over")) (w_or1 (t_cm (op_eqX hr.units) rr_eq (e_v 1) (e_s "under"))))) (ss_one (s_ret (e_tup (a_cons (e_cm (op_eqX hr.units) rr_eq (e_v 1) (e_s "under")) (a_cons (e_lst (a_cons (e_tup (a_cons (e_n) (a_cons (e_n) (a_cons (e_call (h__law_place_bound c) (hr.mono (by decide)) (a_cons (e_ix (e_v 0) (e_i)) (a_nil))) (a_nil))))) (a_nil))) (a_nil)))))) (ss_nil))
    (ss_cons (s_if (t_cm (op_eqX hr.units) rr_eq (e_v 1) (e_s "roof")) (ss_one (s_ret (e_tup (a_cons (e_b) (a_cons (e_call (h__law_roof_parts c) (hr.mono (by decide)) (a_cons (e_ix (e_v 0) (e_i)) (a_cons (e_ix (e_v 0) (e_i)) (a_nil)))) (a_nil)))))) (ss_nil))
    (ss_cons (s_if (t_cm (op_eqX hr.units) rr_eq (e_v 1) (e_s "low")) (ss_cons (s_set 3 sc.nd (e_call (h__law_bound c) (hr.mono (by decide)) (a_cons (e_tup (a_cons (e_i) (a_cons (e_i) (a_nil)))) (a_cons (e_tup (a_cons (e_i) (a_cons (e_i) (a_nil)))) (a_cons (e_call (h__law_over c) (hr.mono (by decide)) (a_cons (e_tup (a_cons (e_i) (a_cons (e_i) (a_nil)))) (a_cons (e_call (h__law_times c) (hr.mono (by decide)) (a_cons (e_tup (a_cons (e_i) (a_cons (e_i) (a_nil)))) (a_cons (e_ix (e_v 0) (e_i)) (a_nil)))) (a_nil)))) (a_nil))))))
    (ss_one (s_ret (e_tup (a_cons (e_b) (a_cons (e_lst (a_cons (e_tup (a_cons (e_n) (a_cons (e_tup (a_cons (e_i) (a_cons (e_i) (a_nil)))) (a_cons (e_tup (a_cons (e_i) (a_cons (e_i) (a_cons (e_i) (a_cons (e_i) (a_nil)))))) (a_nil))))) (a_cons (e_tup (a_cons (e_tup (a_cons (e_i) (a_cons (e_i) (a_nil)))) (a_cons (e_n) (a_cons (e_v 3) (a_nil))))) (a_nil)))) (a_nil))))))) (ss_nil))
    (ss_cons (s_if (t_w (w_or (t_cm (op_eqX hr.units) rr_eq (e_v 1) (e_s "quick")) (w_or1 (t_cm (op_eqX hr.units) rr_eq (e_v 1) (e_s "slow"))))) (ss_one (s_ret (e_tup (a_cons (e_cm (op_eqX hr.units) rr_eq (e_v 1) (e_s "slow")) (a_cons (e_lst (a_cons (e_tup (a_cons (e_n) (a_cons (e_n) (a_cons (e_call (h__law_bound c) (hr.mono (by decide)) (a_cons (e_ix (e_v 0) (e_i)) (a_cons (e_tup (a_cons (e_i) (a_cons (e_i) (a_nil)))) (a_cons (e_tup (a_cons (e_i) (a_cons (e_i) (a_nil)))) (a_nil))))) (a_nil))))) (a_nil))) (a_nil)))))) (ss_nil))
    (ss_cons (s_set 2 sc.nd (e_call (h__law_times c) (hr.mono (by decide)) (a_cons (e_tup (a_cons (e_i) (a_cons (e_i) (a_nil)))) (a_cons (e_ix (e_v 0) (e_i)) (a_nil)))))
    (ss_cons (s_set 3 sc.nd (e_call (h__law_bound c) (hr.mono (by decide)) (a_cons (e_call (h__law_over c) (hr.mono (by decide)) (a_cons (e_tup (a_cons (e_sub (e_i) (e_ix (e_ix (e_v 0) (e_i)) (e_i))) (a_cons (e_ix (e_ix (e_v 0) (e_i)) (e_i)) (a_nil)))) (a_cons (e_v 2) (a_nil)))) (a_cons (e_call (h__law_over c) (hr.mono (by decide)) (a_cons (e_tup (a_cons (e_i) (a_cons (e_i) (a_nil)))) (a_cons (e_v 2) (a_nil)))) (a_cons (e_tup (a_cons (e_i) (a_cons (e_i) (a_nil)))) (a_nil))))))
    (ss_one (s_ret (e_tup (a_cons (e_cm (op_eqX hr.units) rr_eq (e_v 1) (e_s "dives")) (a_cons (e_lst (a_cons (e_tup (a_cons (e_n) (a_cons (e_n) (a_cons (e_v 3) (a_nil))))) (a_nil))) (a_nil))))))))))))⟩
theorem sc__law_head_part : FnScope ["_law_head", "_law_some"] ["_law_head"] (defScope (topS 116)) := ⟨rfl, rfl, rfl, by decide +kernel, rfl, by decide +kernel, by decide +kernel⟩
theorem h__law_head_part (c : Fx P w K mg base) : Has P w K mg base "_law_head_part" 5 1 G__law_head_part := by
  obtain ⟨fd, hm, F⟩ := c.d__law_head_part
  have sc := sc__law_head_part
  exact has_of hm F sc (fun _ _ _ _ _ _ us hl => match us, hl with | [_], _ => rfl) fun cdv A outer s H E hr => ⟨_,
    ss_cons (s_set 1 sc.nd (e_call (h__law_over c) (hr.mono (by decide)) (a_cons (e_tup (a_cons (e_i) (a_cons (e_i) (a_nil)))) (a_cons (e_call (h__law_times c) (hr.mono (by decide)) (a_cons (e_tup (a_cons (e_i) (a_cons (e_i) (a_nil)))) (a_cons (e_v 0) (a_nil)))) (a_nil)))))
    (ss_one (s_ret (e_lst (a_cons (e_tup (a_cons (e_n) (a_cons (e_n) (a_cons (e_call (h__law_bound c) (hr.mono (by decide)) (a_cons (e_v 1) (a_cons (e_tup (a_cons (e_i) (a_cons (e_i) (a_nil)))) (a_cons (e_v 1) (a_nil))))) (a_nil))))) (a_nil)))))⟩
theorem sc__law_span : FnScope ["_law_low", "_law_high_here", "_law_a", "_law_b", "_law_c", "_law_end", "_law_ends", "_law_inner"] ["_law_low", "_law_high_here", "_law_a", "_law_b", "_law_c"] (defScope (topS 117)) := ⟨rfl, rfl, rfl, by decide +kernel, rfl, by decide +kernel, by decide +kernel⟩
theorem h__law_span (c : Fx P w K mg base) : Has P w K mg base "_law_span" 4 5 G__law_span := by
  obtain ⟨fd, hm, F⟩ := c.d__law_span
  have sc := sc__law_span
  exact has_of hm F sc (fun _ _ _ _ _ _ us hl => match us, hl with | [_, _, _, _, _], _ => rfl) fun cdv A outer s H E hr => ⟨_,
    ss_cons (s_if (t_w (w_and (t_cm (op_eqX hr.units) rr_eq (e_v 2) (e_i)) (w_and1 (t_cm (op_eqX hr.units) rr_eq (e_v 3) (e_i))))) (ss_one (s_ret (e_if (t_cm op_ge rr_ge (e_v 4) (e_i)) (e_tup (a_cons (e_v 0) (a_cons (e_v 1) (a_nil)))) (e_n)))) (ss_nil))
    (ss_cons (s_if (t_cm (op_eqX hr.units) rr_eq (e_v 2) (e_i)) (ss_cons (s_set 5 sc.nd (e_if (t_cm op_gt rr_gt (e_v 3) (e_i)) (e_tup (a_cons (e_sub (e_i) (e_v 4)) (a_cons (e_i) (a_cons (e_i) (a_cons (e_v 3) (a_nil)))))) (e_tup (a_cons (e_v 4) (a_cons (e_i) (a_cons (e_i) (a_cons (e_sub (e_i) (e_v 3)) (a_nil))))))))
    (ss_one (s_set 6 sc.nd (e_if (t_cm op_gt rr_gt (e_v 3) (e_i)) (e_tup (a_cons (e_v 5) (a_cons (e_n) (a_nil)))) (e_tup (a_cons (e_n) (a_cons (e_v 5) (a_nil)))))))) (ss_cons (s_set 7 sc.nd (e_sub (e_mul (e_v 3) (e_v 3)) (e_mul (e_mul (e_i) (e_v 2)) (e_v 4))))
    (ss_cons (s_if (t_cm op_lt rr_lt (e_v 7) (e_i)) (ss_one (s_ret (e_n))) (ss_nil))
    (ss_one (s_set 6 sc.nd (e_tup (a_cons (e_tup (a_cons (e_v 3) (a_cons (e_neg (e_i)) (a_cons (e_v 7) (a_cons (e_sub (e_i) (e_mul (e_i) (e_v 2))) (a_nil)))))) (a_cons (e_tup (a_cons (e_v 3) (a_cons (e_i) (a_cons (e_v 7) (a_cons (e_sub (e_i) (e_mul (e_i) (e_v 2))) (a_nil)))))) (a_nil)))))))))
    (ss_cons (s_set 0 sc.nd (e_if (t_w (w_or (t_isN (e_v 0)) (w_or1 (t_w (w_and (t_notN (e_ix (e_v 6) (e_i))) (w_and1 (t_cm op_gt rr_gt (e_call (h__law_surd_order c) (hr.mono (by decide)) (a_cons (e_ix (e_v 6) (e_i)) (a_cons (e_v 0) (a_nil)))) (e_i)))))))) (e_ix (e_v 6) (e_i)) (e_v 0)))
    (ss_cons (s_set 1 sc.nd (e_if (t_w (w_or (t_isN (e_v 1)) (w_or1 (t_w (w_and (t_notN (e_ix (e_v 6) (e_i))) (w_and1 (t_cm op_lt rr_lt (e_call (h__law_surd_order c) (hr.mono (by decide)) (a_cons (e_ix (e_v 6) (e_i)) (a_cons (e_v 1) (a_nil)))) (e_i)))))))) (e_ix (e_v 6) (e_i)) (e_v 1)))
    (ss_cons (s_if (t_w (w_and (t_notN (e_v 0)) (w_and (t_notN (e_v 1)) (w_and1 (t_cm op_gt rr_gt (e_call (h__law_surd_order c) (hr.mono (by decide)) (a_cons (e_v 0) (a_cons (e_v 1) (a_nil)))) (e_i)))))) (ss_one (s_ret (e_n))) (ss_nil))
    (ss_one (s_ret (e_tup (a_cons (e_v 0) (a_cons (e_v 1) (a_nil))))))))))⟩
theorem sc__law_pair_span : FnScope ["_law_lower", "_law_upper", "_law_strict", "_law_found", "_law_line_here", "_law_low", "_law_high_here", "_law_bound_here", "_law_a", "_law_b", "_law_c", "_law_each"] ["_law_lower", "_law_upper", "_law_strict"] (defScope (topS 118)) := ⟨rfl, rfl, rfl, by decide +kernel, rfl, by decide +kernel, by decide +kernel⟩
theorem h__law_pair_span (c : Fx P w K mg base) : Has P w K mg base "_law_pair_span" 5 3 G__law_pair_span := by
  obtain ⟨fd, hm, F⟩ := c.d__law_pair_span
  have sc := sc__law_pair_span
  exact has_of hm F sc (fun _ _ _ _ _ _ us hl => match us, hl with | [_, _, _], _ => rfl) fun cdv A outer s H E hr => ⟨_,
    ss_cons (s_par2 3 4 sc.nd (a_cons (e_n) (a_cons (e_ix (e_ix (e_v 1) (e_i)) (e_i)) (a_nil))))
    (ss_cons (s_for PassesOwn.never rfl (i_lst (e_v 0)) (g_tup rfl (g_cons (g_v 5 sc.nd) (g_cons (g_v 6 sc.nd) (g_cons (g_v 7 sc.nd) (g_nil))))) (ss_cons (s_set 8 sc.nd (e_sub (e_mul (e_ix (e_v 4) (e_i)) (e_ix (e_v 7) (e_i))) (e_mul (e_ix (e_v 7) (e_i)) (e_ix (e_v 4) (e_i)))))
    (ss_cons (s_set 9 sc.nd (e_sub (e_mul (e_ix (e_v 4) (e_i)) (e_ix (e_v 7) (e_i))) (e_mul (e_ix (e_v 7) (e_i)) (e_ix (e_v 4) (e_i)))))
    (ss_cons (s_set 10 sc.nd (e_sub (e_mul (e_ix (e_v 4) (e_i)) (e_ix (e_v 7) (e_i))) (e_mul (e_ix (e_v 7) (e_i)) (e_ix (e_v 4) (e_i)))))
    (ss_cons (s_set 5 sc.nd (e_if (t_isN (e_v 5)) (e_n) (e_call (h__law_plain c) (hr.mono (by decide)) (a_cons (e_v 5) (a_nil)))))
    (ss_cons (s_set 11 sc.nd (e_call (h__law_span c) (hr.mono (by decide)) (a_cons (e_v 5) (a_cons (e_if (t_isN (e_v 6)) (e_n) (e_call (h__law_plain c) (hr.mono (by decide)) (a_cons (e_v 6) (a_nil)))) (a_cons (e_v 8) (a_cons (e_v 9) (a_cons (e_v 10) (a_nil))))))))
    (ss_one (s_if (t_notN (e_v 11)) (ss_cons (s_if (t_w (w_and (t_val (e_v 2)) (w_and (t_cm (op_eqX hr.units) rr_eq (e_v 8) (e_i)) (w_and (t_cm (op_eqX hr.units) rr_eq (e_v 9) (e_i)) (w_and1 (t_cm (op_eqX hr.units) rr_eq (e_v 10) (e_i))))))) (ss_one (s_ret (e_n))) (ss_nil))
    (ss_one (s_set 3 sc.nd (e_if (t_isN (e_v 3)) (e_v 11) (e_tup (a_cons (e_ix (e_v 3) (e_i)) (a_cons (e_ix (e_v 11) (e_i)) (a_nil)))))))) (ss_nil)))))))))
    (ss_cons (s_if (t_w (w_or (t_not (t_val (e_v 2))) (w_or (t_isN (e_v 3)) (w_or (t_isN (e_ix (e_v 3) (e_i))) (w_or1 (t_isN (e_ix (e_v 3) (e_i)))))))) (ss_one (s_ret (e_v 3))) (ss_nil))
    (ss_one (s_ret (e_if (t_cm op_lt rr_lt (e_call (h__law_surd_order c) (hr.mono (by decide)) (a_cons (e_ix (e_v 3) (e_i)) (a_cons (e_ix (e_v 3) (e_i)) (a_nil)))) (e_i)) (e_v 3) (e_n))))))⟩
theorem sc__law_spans : FnScope ["_law_head", "_law_some", "_law_lowers", "_law_uppers", "_law_found", "_law_ask", "_law_strict", "_law_parts_here", "_law_end", "_law_line_here", "_law_other", "_law_span_here", "_law_lower"] ["_law_head", "_law_some"] (defScope (topS 119)) := ⟨rfl, rfl, rfl, by decide +kernel, rfl, by decide +kernel, by decide +kernel⟩
theorem h__law_spans (c : Fx P w K mg base) : Has P w K mg base "_law_spans" 8 2 G__law_spans := by
  obtain ⟨fd, hm, F⟩ := c.d__law_spans
  have sc := sc__law_spans
  exact has_of hm F sc (fun _ _ _ _ _ _ us hl => match us, hl with | [_, _], _ => rfl) fun cdv A outer s H E hr => ⟨_,
    ss_alloc3 2 3 4 sc.nd (a_cons (e_tup (a_cons (e_call (h__law_head_part c) (hr.mono (by decide)) (a_cons (e_v 0) (a_nil))) (a_cons (e_b) (a_nil)))) (a_nil))
    (ss_cons (s_for PassesOwn.never rfl (i_lst (e_v 1)) (g_tup rfl (g_cons (g_v 5 sc.nd) (g_cons (g_v 6 sc.nd) (g_nil)))) (ss_one (s_if (t_w (w_and (t_w (w_or (t_cm (op_eqX hr.units) rr_eq (e_ix (e_v 5) (e_i)) (e_s "dives")) (w_or1 (t_cm (op_eqX hr.units) rr_eq (e_ix (e_v 5) (e_i)) (e_s "climbs"))))) (w_and1 (t_cm (op_eqX hr.units) rr_eq (e_ix (e_ix (e_v 5) (e_i)) (e_i)) (e_i))))) (ss_cons (s_set 8 sc.nd (e_call (h__law_plain c) (hr.mono (by decide)) (a_cons (e_ix (e_v 5) (e_i)) (a_nil))))
    (ss_one (s_app 4 (pv 4) (e_if (t_cm (op_eqX hr.units) rr_eq (e_ix (e_v 5) (e_i)) (e_s "dives")) (e_tup (a_cons (e_n) (a_cons (e_v 8) (a_cons (e_v 6) (a_nil))))) (e_tup (a_cons (e_v 8) (a_cons (e_n) (a_cons (e_v 6) (a_nil))))))))) (ss_cons (s_asg (e_call (h__law_parts c) (hr.mono (by decide)) (a_cons (e_v 5) (a_nil))) (g_tup rfl (g_cons (g_v 12 sc.nd) (g_cons (g_v 7 sc.nd) (g_nil)))))
    (ss_one (s_if (t_val (e_v 12)) (ss_one (s_app 2 (pv 2) (e_tup (a_cons (e_v 7) (a_cons (e_v 6) (a_nil)))))) (ss_one (s_app 3 (pv 3) (e_tup (a_cons (e_v 7) (a_cons (e_v 6) (a_nil))))))))))))
    (ss_cons (s_forC 2 PassesOwn.never rfl (pv 2) (g_tup rfl (g_cons (g_v 7 sc.nd) (g_cons (g_v 6 sc.nd) (g_nil)))) (ss_one (s_forC 3 PassesOwn.never rfl (pv 3) (g_tup rfl (g_cons (g_v 9 sc.nd) (g_cons (g_v 10 sc.nd) (g_nil)))) (ss_cons (s_set 11 sc.nd (e_call (h__law_pair_span c) (hr.mono (by decide)) (a_cons (e_v 7) (a_cons (e_v 9) (a_cons (e_or (e_v 6) (e_or1 (e_v 10))) (a_nil))))))
    (ss_one (s_app 4 (pv 4) (e_if (t_isN (e_v 11)) (e_n) (e_tup (a_cons (e_ix (e_v 11) (e_i)) (a_cons (e_ix (e_v 11) (e_i)) (a_cons (e_or (e_v 6) (e_or1 (e_v 10))) (a_nil))))))))))))
    (ss_one (s_ret (e_v 4)))))⟩
theorem sc__law_slopes : FnScope ["_law_head", "_law_some", "_law_span_here", "_law_way", "_law_low", "_law_high_here", "_law_cut_low", "_law_cut_high"] ["_law_head", "_law_some"] (defScope (topS 120)) := ⟨rfl, rfl, rfl, by decide +kernel, rfl, by decide +kernel, by decide +kernel⟩
theorem h__law_slopes (c : Fx P w K mg base) : Has P w K mg base "_law_slopes" 9 2 G__law_slopes := by
  obtain ⟨fd, hm, F⟩ := c.d__law_slopes
  have sc := sc__law_slopes
  exact has_of hm F sc (fun _ _ _ _ _ _ us hl => match us, hl with | [_, _], _ => rfl) fun cdv A outer s H E hr => ⟨_,
    ss_cons (s_asg (e_tup (a_cons (e_n) (a_cons (e_n) (a_cons (e_b) (a_cons (e_b) (a_nil)))))) (g_tup rfl (g_cons (g_v 4 sc.nd) (g_cons (g_v 5 sc.nd) (g_cons (g_v 6 sc.nd) (g_cons (g_v 7 sc.nd) (g_nil)))))))
    (ss_cons (s_for PassesOwn.never rfl (i_lst (e_call (h__law_spans c) (hr.mono (by decide)) (a_cons (e_v 0) (a_cons (e_v 1) (a_nil))))) (g_v 2 sc.nd) (ss_cons (s_if (t_isN (e_v 2)) (ss_one (s_ret (e_n))) (ss_nil))
    (ss_cons (s_if (t_notN (e_ix (e_v 2) (e_i))) (ss_cons (s_set 3 sc.nd (e_if (t_isN (e_v 4)) (e_i) (e_call (h__law_surd_order c) (hr.mono (by decide)) (a_cons (e_ix (e_v 2) (e_i)) (a_cons (e_v 4) (a_nil))))))
    (ss_cons (s_set 6 sc.nd (e_if (t_cm op_gt rr_gt (e_v 3) (e_i)) (e_ix (e_v 2) (e_i)) (e_or (e_v 6) (e_or1 (e_and (e_cm (op_eqX hr.units) rr_eq (e_v 3) (e_i)) (e_and1 (e_ix (e_v 2) (e_i))))))))
    (ss_one (s_set 4 sc.nd (e_if (t_cm op_gt rr_gt (e_v 3) (e_i)) (e_ix (e_v 2) (e_i)) (e_v 4)))))) (ss_nil))
    (ss_one (s_if (t_notN (e_ix (e_v 2) (e_i))) (ss_cons (s_set 3 sc.nd (e_if (t_isN (e_v 5)) (e_i) (e_call (h__law_surd_order c) (hr.mono (by decide)) (a_cons (e_v 5) (a_cons (e_ix (e_v 2) (e_i)) (a_nil))))))
    (ss_cons (s_set 7 sc.nd (e_if (t_cm op_gt rr_gt (e_v 3) (e_i)) (e_ix (e_v 2) (e_i)) (e_or (e_v 7) (e_or1 (e_and (e_cm (op_eqX hr.units) rr_eq (e_v 3) (e_i)) (e_and1 (e_ix (e_v 2) (e_i))))))))
    (ss_one (s_set 5 sc.nd (e_if (t_cm op_gt rr_gt (e_v 3) (e_i)) (e_ix (e_v 2) (e_i)) (e_v 5)))))) (ss_nil))))))
    (ss_cons (s_if (t_w (w_or (t_isN (e_v 4)) (w_or1 (t_isN (e_v 5))))) (ss_one (s_ret (e_tup (a_cons (e_v 4) (a_cons (e_v 5) (a_nil)))))) (ss_nil))
    (ss_cons (s_set 3 sc.nd (e_call (h__law_surd_order c) (hr.mono (by decide)) (a_cons (e_v 4) (a_cons (e_v 5) (a_nil)))))
    (ss_one (s_ret (e_if (t_w (w_or (t_cm op_gt rr_gt (e_v 3) (e_i)) (w_or1 (t_w (w_and (t_cm (op_eqX hr.units) rr_eq (e_v 3) (e_i)) (w_and1 (t_w (w_or (t_val (e_v 6)) (w_or1 (t_val (e_v 7))))))))))) (e_n) (e_tup (a_cons (e_v 4) (a_cons (e_v 5) (a_nil))))))))))⟩
theorem sc__law_size : FnScope ["_law_well_here", "_law_way"] ["_law_well_here"] (defScope (topS 121)) := ⟨rfl, rfl, rfl, by decide +kernel, rfl, by decide +kernel, by decide +kernel⟩
theorem h__law_size (c : Fx P w K mg base) : Has P w K mg base "_law_size" 4 1 G__law_size := by
  obtain ⟨fd, hm, F⟩ := c.d__law_size
  have sc := sc__law_size
  exact has_of hm F sc (fun _ _ _ _ _ _ us hl => match us, hl with | [_], _ => rfl) fun cdv A outer s H E hr => ⟨_,
    ss_cons (s_set 1 sc.nd (e_call (h__law_draw c) (hr.mono (by decide)) (a_cons (e_v 0) (a_cons (e_i) (a_nil)))))
    (ss_cons (s_if (t_cm op_lt rr_lt (e_v 1) (e_i)) (ss_one (s_ret (e_call (h__law_pick c) (hr.mono (by decide)) (a_cons (e_v 0) (a_cons (e_tup (a_cons (e_tup (a_cons (e_i) (a_cons (e_i) (a_nil)))) (a_cons (e_tup (a_cons (e_i) (a_cons (e_i) (a_nil)))) (a_cons (e_tup (a_cons (e_i) (a_cons (e_i) (a_nil)))) (a_cons (e_tup (a_cons (e_i) (a_cons (e_i) (a_nil)))) (a_cons (e_tup (a_cons (e_i) (a_cons (e_i) (a_nil)))) (a_cons (e_tup (a_cons (e_i) (a_cons (e_i) (a_nil)))) (a_cons (e_tup (a_cons (e_i) (a_cons (e_i) (a_nil)))) (a_cons (e_tup (a_cons (e_i) (a_cons (e_i) (a_nil)))) (a_nil)))))))))) (a_nil)))))) (ss_nil))
    (ss_one (s_ret (e_call (h__law_ratio c) (hr.mono (by decide)) (a_cons (e_add (e_i) (e_call (h__law_draw c) (hr.mono (by decide)) (a_cons (e_v 0) (a_cons (e_i) (a_nil))))) (a_cons (e_add (e_i) (e_call (h__law_draw c) (hr.mono (by decide)) (a_cons (e_v 0) (a_cons (e_i) (a_nil))))) (a_nil)))))))⟩
theorem sc__law_part : FnScope ["_law_well_here", "_law_size_here"] ["_law_well_here"] (defScope (topS 122)) := ⟨rfl, rfl, rfl, by decide +kernel, rfl, by decide +kernel, by decide +kernel⟩
theorem h__law_part (c : Fx P w K mg base) : Has P w K mg base "_law_part" 5 1 G__law_part := by
  obtain ⟨fd, hm, F⟩ := c.d__law_part
  have sc := sc__law_part
  exact has_of hm F sc (fun _ _ _ _ _ _ us hl => match us, hl with | [_], _ => rfl) fun cdv A outer s H E hr => ⟨_,
    ss_cons (s_set 1 sc.nd (e_call (h__law_pick c) (hr.mono (by decide)) (a_cons (e_v 0) (a_cons (e_tup (a_cons (e_tup (a_cons (e_i) (a_cons (e_i) (a_nil)))) (a_cons (e_tup (a_cons (e_i) (a_cons (e_i) (a_nil)))) (a_cons (e_tup (a_cons (e_i) (a_cons (e_i) (a_nil)))) (a_cons (e_tup (a_cons (e_i) (a_cons (e_i) (a_nil)))) (a_cons (e_n) (a_cons (e_n) (a_cons (e_n) (a_nil))))))))) (a_nil)))))
    (ss_cons (s_set 1 sc.nd (e_if (t_isN (e_v 1)) (e_call (h__law_size c) (hr.mono (by decide)) (a_cons (e_v 0) (a_nil))) (e_v 1)))
    (ss_one (s_ret (e_if (t_cm op_lt rr_lt (e_call (h__law_draw c) (hr.mono (by decide)) (a_cons (e_v 0) (a_cons (e_i) (a_nil)))) (e_i)) (e_v 1) (e_tup (a_cons (e_sub (e_i) (e_ix (e_v 1) (e_i))) (a_cons (e_ix (e_v 1) (e_i)) (a_nil))))))))⟩
theorem sc__law_jet : FnScope ["_law_well_here", "_law_way"] ["_law_well_here"] (defScope (topS 123)) := ⟨rfl, rfl, rfl, by decide +kernel, rfl, by decide +kernel, by decide +kernel⟩
theorem h__law_jet (c : Fx P w K mg base) : Has P w K mg base "_law_jet" 6 1 G__law_jet := by
  obtain ⟨fd, hm, F⟩ := c.d__law_jet
  have sc := sc__law_jet
  exact has_of hm F sc (fun _ _ _ _ _ _ us hl => match us, hl with | [_], _ => rfl) fun cdv A outer s H E hr => ⟨_,
    ss_cons (s_set 1 sc.nd (e_call (h__law_draw c) (hr.mono (by decide)) (a_cons (e_v 0) (a_cons (e_i) (a_nil)))))
    (ss_cons (s_if (t_cm op_lt rr_lt (e_v 1) (e_i)) (ss_one (s_ret (e_call (h__law_pick c) (hr.mono (by decide)) (a_cons (e_v 0) (a_cons (e_tup (a_cons (e_tup (a_cons (e_tup (a_cons (e_i) (a_cons (e_i) (a_nil)))) (a_cons (e_tup (a_cons (e_i) (a_cons (e_i) (a_nil)))) (a_nil)))) (a_cons (e_tup (a_cons (e_tup (a_cons (e_i) (a_cons (e_i) (a_nil)))) (a_cons (e_tup (a_cons (e_i) (a_cons (e_i) (a_nil)))) (a_nil)))) (a_cons (e_tup (a_cons (e_tup (a_cons (e_i) (a_cons (e_i) (a_nil)))) (a_cons (e_tup (a_cons (e_i) (a_cons (e_i) (a_nil)))) (a_nil)))) (a_cons (e_tup (a_cons (e_tup (a_cons (e_i) (a_cons (e_i) (a_nil)))) (a_cons (e_tup (a_cons (e_i) (a_cons (e_i) (a_nil)))) (a_nil)))) (a_cons (e_tup (a_cons (e_tup (a_cons (e_i) (a_cons (e_i) (a_nil)))) (a_cons (e_tup (a_cons (e_i) (a_cons (e_i) (a_nil)))) (a_nil)))) (a_nil))))))) (a_nil)))))) (ss_nil))
    (ss_one (s_ret (e_tup (a_cons (e_call (h__law_part c) (hr.mono (by decide)) (a_cons (e_v 0) (a_nil))) (a_cons (e_call (h__law_size c) (hr.mono (by decide)) (a_cons (e_v 0) (a_nil))) (a_nil)))))))⟩
theorem sc__law_slack : FnScope ["_law_well_here"] ["_law_well_here"] (defScope (topS 124)) := ⟨rfl, rfl, rfl, by decide +kernel, rfl, by decide +kernel, by decide +kernel⟩
theorem h__law_slack (c : Fx P w K mg base) : Has P w K mg base "_law_slack" 3 1 G__law_slack := by
  obtain ⟨fd, hm, F⟩ := c.d__law_slack
  have sc := sc__law_slack
  exact has_of hm F sc (fun _ _ _ _ _ _ us hl => match us, hl with | [_], _ => rfl) fun cdv A outer s H E hr => ⟨_,
    ss_one (s_ret (e_call (h__law_pick c) (hr.mono (by decide)) (a_cons (e_v 0) (a_cons (e_tup (a_cons (e_tup (a_cons (e_i) (a_cons (e_i) (a_nil)))) (a_cons (e_tup (a_cons (e_i) (a_cons (e_i) (a_nil)))) (a_cons (e_tup (a_cons (e_i) (a_cons (e_i) (a_nil)))) (a_cons (e_tup (a_cons (e_i) (a_cons (e_i) (a_nil)))) (a_cons (e_tup (a_cons (e_i) (a_cons (e_i) (a_nil)))) (a_cons (e_tup (a_cons (e_i) (a_cons (e_i) (a_nil)))) (a_cons (e_tup (a_cons (e_i) (a_cons (e_i) (a_nil)))) (a_nil))))))))) (a_nil)))))⟩
theorem sc__law_roof_near : FnScope ["_law_well_here", "_law_jet_here", "_law_some", "_law_a", "_law_more", "_law_slack_here", "_law_b", "_law_rise", "_law_first", "_law_last"] ["_law_well_here", "_law_jet_here"] (defScope (topS 125)) := ⟨rfl, rfl, rfl, by decide +kernel, rfl, by decide +kernel, by decide +kernel⟩
theorem h__law_roof_near (c : Fx P w K mg base) : Has P w K mg base "_law_roof_near" 6 2 G__law_roof_near := by
  obtain ⟨fd, hm, F⟩ := c.d__law_roof_near
  have sc := sc__law_roof_near
  exact has_of hm F sc (fun _ _ _ _ _ _ us hl => match us, hl with | [_, _], _ => rfl) fun cdv A outer s H E hr => ⟨_,
    ss_cons (s_par3 3 4 5 sc.nd (a_cons (e_call (h__law_size c) (hr.mono (by decide)) (a_cons (e_v 0) (a_nil))) (a_cons (e_call (h__law_size c) (hr.mono (by decide)) (a_cons (e_v 0) (a_nil))) (a_cons (e_call (h__law_slack c) (hr.mono (by decide)) (a_cons (e_v 0) (a_nil))) (a_nil)))))
    (ss_cons (s_par2 6 7 sc.nd (a_cons (e_call (h__law_plus c) (hr.mono (by decide)) (a_cons (e_v 3) (a_cons (e_v 4) (a_nil)))) (a_cons (e_call (h__law_over c) (hr.mono (by decide)) (a_cons (e_call (h__law_times c) (hr.mono (by decide)) (a_cons (e_ix (e_v 1) (e_i)) (a_cons (e_call (h__law_times c) (hr.mono (by decide)) (a_cons (e_v 4) (a_cons (e_v 4) (a_nil)))) (a_nil)))) (a_cons (e_tup (a_cons (e_i) (a_cons (e_i) (a_nil)))) (a_nil)))) (a_nil))))
    (ss_cons (s_set 2 sc.nd (e_call (h__law_plus c) (hr.mono (by decide)) (a_cons (e_v 7) (a_cons (e_v 5) (a_nil)))))
    (ss_cons (s_par2 8 9 sc.nd (a_cons (e_call (h__law_plus c) (hr.mono (by decide)) (a_cons (e_call (h__law_high c) (hr.mono (by decide)) (a_cons (e_v 1) (a_cons (e_v 3) (a_nil)))) (a_cons (e_v 2) (a_nil)))) (a_cons (e_call (h__law_plus c) (hr.mono (by decide)) (a_cons (e_call (h__law_high c) (hr.mono (by decide)) (a_cons (e_v 1) (a_cons (e_v 6) (a_nil)))) (a_cons (e_v 2) (a_nil)))) (a_nil))))
    (ss_one (s_ret (e_tup (a_cons (e_s "roof") (a_cons (e_call (h__law_place c) (hr.mono (by decide)) (a_cons (e_v 3) (a_cons (e_v 8) (a_nil)))) (a_cons (e_call (h__law_place c) (hr.mono (by decide)) (a_cons (e_v 6) (a_cons (e_v 9) (a_nil)))) (a_nil))))))))))⟩
theorem sc__law_near_ask : FnScope ["_law_well_here", "_law_jet_here", "_law_slow", "_law_way", "_law_x", "_law_slack_here", "_law_high_here", "_law_steep_here", "_law_top", "_law_some"] ["_law_well_here", "_law_jet_here"] (defScope (topS 126)) := ⟨rfl, rfl, rfl, by decide +kernel, rfl, by decide +kernel, by decide +kernel⟩
theorem h__law_near_ask (c : Fx P w K mg base) : Has P w K mg base "_law_near_ask" 7 2 G__law_near_ask := by
  obtain ⟨fd, hm, F⟩ := c.d__law_near_ask
  have sc := sc__law_near_ask
  exact has_of hm F sc (fun _ _ _ _ _ _ us hl => match us, hl with | [_, _], _ => rfl) fun cdv A outer s H E hr => ⟨_,
    ss_cons (s_par3 3 4 5 sc.nd (a_cons (e_call (h__law_draw c) (hr.mono (by decide)) (a_cons (e_v 0) (a_cons (e_i) (a_nil)))) (a_cons (e_call (h__law_size c) (hr.mono (by decide)) (a_cons (e_v 0) (a_nil))) (a_cons (e_call (h__law_slack c) (hr.mono (by decide)) (a_cons (e_v 0) (a_nil))) (a_nil)))))
    (ss_cons (s_par2 6 7 sc.nd (a_cons (e_call (h__law_high c) (hr.mono (by decide)) (a_cons (e_v 1) (a_cons (e_v 4) (a_nil)))) (a_cons (e_call (h__law_steep c) (hr.mono (by decide)) (a_cons (e_v 1) (a_cons (e_v 4) (a_nil)))) (a_nil))))
    (ss_cons (s_if (t_cm op_lt rr_lt (e_v 3) (e_i)) (ss_one (s_ret (e_tup (a_cons (e_s "over") (a_cons (e_call (h__law_place c) (hr.mono (by decide)) (a_cons (e_v 4) (a_cons (e_call (h__law_less c) (hr.mono (by decide)) (a_cons (e_v 6) (a_cons (e_v 5) (a_nil)))) (a_nil)))) (a_nil)))))) (ss_nil))
    (ss_cons (s_if (t_cm op_lt rr_lt (e_v 3) (e_i)) (ss_one (s_ret (e_tup (a_cons (e_s "under") (a_cons (e_call (h__law_place c) (hr.mono (by decide)) (a_cons (e_v 4) (a_cons (e_call (h__law_plus c) (hr.mono (by decide)) (a_cons (e_v 6) (a_cons (e_v 5) (a_nil)))) (a_nil)))) (a_nil)))))) (ss_nil))
    (ss_cons (s_if (t_cm (op_eqX hr.units) rr_eq (e_v 3) (e_i)) (ss_one (s_ret (e_call (h__law_roof_near c) (hr.mono (by decide)) (a_cons (e_v 0) (a_cons (e_v 1) (a_nil)))))) (ss_nil))
    (ss_cons (s_if (t_cm (op_eqX hr.units) rr_eq (e_v 3) (e_i)) (ss_cons (s_set 8 sc.nd (e_call (h__law_over c) (hr.mono (by decide)) (a_cons (e_call (h__law_times c) (hr.mono (by decide)) (a_cons (e_ix (e_v 1) (e_i)) (a_cons (e_ix (e_v 1) (e_i)) (a_nil)))) (a_cons (e_call (h__law_times c) (hr.mono (by decide)) (a_cons (e_tup (a_cons (e_i) (a_cons (e_i) (a_nil)))) (a_cons (e_ix (e_v 1) (e_i)) (a_nil)))) (a_nil)))))
    (ss_one (s_ret (e_tup (a_cons (e_s "low") (a_cons (e_if (t_cm op_gt rr_gt (e_ix (e_ix (e_v 1) (e_i)) (e_i)) (e_i)) (e_call (h__law_plus c) (hr.mono (by decide)) (a_cons (e_v 8) (a_cons (e_v 5) (a_nil)))) (e_v 4)) (a_nil))))))) (ss_nil))
    (ss_cons (s_if (t_cm op_lt rr_lt (e_v 3) (e_i)) (ss_cons (s_asg (e_if (t_cm (op_eqX hr.units) rr_eq (e_call (h__law_draw c) (hr.mono (by decide)) (a_cons (e_v 0) (a_cons (e_i) (a_nil)))) (e_i)) (e_tup (a_cons (e_tup (a_cons (e_i) (a_cons (e_i) (a_nil)))) (a_cons (e_ix (e_v 1) (e_i)) (a_nil)))) (e_tup (a_cons (e_v 4) (a_cons (e_v 7) (a_nil))))) (g_tup rfl (g_cons (g_v 4 sc.nd) (g_cons (g_v 7 sc.nd) (g_nil)))))
    (ss_cons (s_set 9 sc.nd (e_tup (a_cons (e_s "dives") (a_cons (e_v 4) (a_cons (e_call (h__law_plus c) (hr.mono (by decide)) (a_cons (e_v 7) (a_cons (e_v 5) (a_nil)))) (a_nil))))))
    (ss_one (s_ret (e_if (t_cm (op_eqX hr.units) rr_eq (e_v 3) (e_i)) (e_v 9) (e_tup (a_cons (e_s "climbs") (a_cons (e_v 4) (a_cons (e_call (h__law_less c) (hr.mono (by decide)) (a_cons (e_v 7) (a_cons (e_v 5) (a_nil)))) (a_nil)))))))))) (ss_nil))
    (ss_cons (s_if (t_cm (op_eqX hr.units) rr_eq (e_v 3) (e_i)) (ss_one (s_ret (e_tup (a_cons (e_s "quick") (a_cons (e_call (h__law_plus c) (hr.mono (by decide)) (a_cons (e_ix (e_v 1) (e_i)) (a_cons (e_v 5) (a_nil)))) (a_nil)))))) (ss_nil))
    (ss_cons (s_set 2 sc.nd (e_call (h__law_less c) (hr.mono (by decide)) (a_cons (e_ix (e_v 1) (e_i)) (a_cons (e_v 5) (a_nil)))))
    (ss_one (s_ret (e_tup (a_cons (e_s "slow") (a_cons (e_if (t_cm op_gt rr_gt (e_ix (e_v 2) (e_i)) (e_i)) (e_v 2) (e_ix (e_v 1) (e_i))) (a_nil))))))))))))))⟩
theorem sc__law_wet : FnScope ["_law_head", "_law_asks", "_law_place_here", "_law_some", "_law_ask"] ["_law_head", "_law_asks", "_law_place_here"] (defScope (topS 127)) := ⟨rfl, rfl, rfl, by decide +kernel, rfl, by decide +kernel, by decide +kernel⟩
theorem h__law_wet (c : Fx P w K mg base) : Has P w K mg base "_law_wet" 10 3 G__law_wet := by
  obtain ⟨fd, hm, F⟩ := c.d__law_wet
  have sc := sc__law_wet
  exact has_of hm F sc (fun _ _ _ _ _ _ us hl => match us, hl with | [_, _, _], _ => rfl) fun cdv A outer s H E hr => ⟨_,
    ss_cons (s_setLcX (i := 3) [("_law_ask", 4)] rfl sc.nd rfl (i_tup (e_v 1)) (by show blkC ["_law_head", "_law_asks", "_law_place_here", "_law_some", "_law_ask"] (defScope (topS 127)) _ _ = true; decide +kernel) (by decide) (fun _ _ _ _ _ => ⟨_, g_v 4 sc.nd⟩) (fun _ _ _ _ _ => ⟨_, q_nil⟩) (fun _ _ _ _ _ => ⟨_, e_tup (a_cons (e_v 4) (a_cons (e_b) (a_nil)))⟩))
    (ss_one (s_ret (e_call (h__law_slopes c) (hr.mono (by decide)) (a_cons (e_v 0) (a_cons (e_add (e_v 3) (e_lst (a_cons (e_tup (a_cons (e_tup (a_cons (e_s "over") (a_cons (e_v 2) (a_nil)))) (a_cons (e_b) (a_nil)))) (a_cons (e_tup (a_cons (e_tup (a_cons (e_s "under") (a_cons (e_v 2) (a_nil)))) (a_cons (e_b) (a_nil)))) (a_nil))))) (a_nil))))))⟩
theorem sc__law_guard_asks : FnScope ["_law_guards_here", "_law_word", "_law_place_here"] ["_law_guards_here"] (defScope (topS 128)) := ⟨rfl, rfl, rfl, by decide +kernel, rfl, by decide +kernel, by decide +kernel⟩
theorem h__law_guard_asks (c : Fx P w K mg base) : Has P w K mg base "_law_guard_asks" 1 1 G__law_guard_asks := by
  obtain ⟨fd, hm, F⟩ := c.d__law_guard_asks
  have sc := sc__law_guard_asks
  exact has_of hm F sc (fun _ _ _ _ _ _ us hl => match us, hl with | [_], _ => rfl) fun cdv A outer s H E hr => ⟨_,
    ss_one (s_ret (e_lcX [("_law_word", 1), ("_law_place_here", 2)] rfl sc.nd (i_tup (e_v 0)) (by show blkC ["_law_guards_here", "_law_word", "_law_place_here"] (defScope (topS 128)) _ _ = true; decide +kernel) (by decide) (fun _ _ _ _ _ => ⟨_, g_tup rfl (g_cons (g_v 1 sc.nd) (g_cons (g_v 2 sc.nd) (g_nil)))⟩) (fun _ _ _ _ _ => ⟨_, q_nil⟩) (fun _ _ _ _ _ => ⟨_, e_if (t_cm (op_eqX hr.units) rr_eq (e_v 1) (e_s "post")) (e_tup (a_cons (e_s "over") (a_cons (e_v 2) (a_nil)))) (e_tup (a_cons (e_s "under") (a_cons (e_v 2) (a_nil))))⟩)))⟩
theorem sc__law_guarded : FnScope ["_law_head", "_law_asks", "_law_place_here", "_law_guards_here"] ["_law_head", "_law_asks", "_law_place_here", "_law_guards_here"] (defScope (topS 129)) := ⟨rfl, rfl, rfl, by decide +kernel, rfl, by decide +kernel, by decide +kernel⟩
theorem h__law_guarded (c : Fx P w K mg base) : Has P w K mg base "_law_guarded" 11 4 G__law_guarded := by
  obtain ⟨fd, hm, F⟩ := c.d__law_guarded
  have sc := sc__law_guarded
  exact has_of hm F sc (fun _ _ _ _ _ _ us hl => match us, hl with | [_, _, _, _], _ => rfl) fun cdv A outer s H E hr => ⟨_,
    ss_one (s_ret (e_isN (e_call (h__law_wet c) (hr.mono (by decide)) (a_cons (e_v 0) (a_cons (e_add (e_ty cr_tupleX rb_tuple b_tuple c.f_tuple (a_cons (e_v 1) (a_nil))) (e_ty cr_tupleX rb_tuple b_tuple c.f_tuple (a_cons (e_call (h__law_guard_asks c) (hr.mono (by decide)) (a_cons (e_v 3) (a_nil))) (a_nil)))) (a_cons (e_v 2) (a_nil)))))))⟩
theorem sc__law_guards : FnScope ["_law_well_here", "_law_jet_here", "_law_place_here", "_law_turn", "_law_found", "_law_far", "_law_x", "_law_high_here", "_law_slack_here", "_law_way"] ["_law_well_here", "_law_jet_here", "_law_place_here"] (defScope (topS 130)) := ⟨rfl, rfl, rfl, by decide +kernel, rfl, by decide +kernel, by decide +kernel⟩
theorem h__law_guards (c : Fx P w K mg base) : Has P w K mg base "_law_guards" 6 3 G__law_guards := by
  obtain ⟨fd, hm, F⟩ := c.d__law_guards
  have sc := sc__law_guards
  exact has_of hm F sc (fun _ _ _ _ _ _ us hl => match us, hl with | [_, _, _], _ => rfl) fun cdv A outer s H E hr => ⟨_,
    ss_alloc2 4 5 sc.nd (e_ix (e_call (h__law_apart c) (hr.mono (by decide)) (a_cons (e_v 2) (a_nil))) (e_i))
    (ss_cons (s_for PassesOwn.never rfl (i_rng1 c.f_range (e_add (e_i) (e_call (h__law_draw c) (hr.mono (by decide)) (a_cons (e_v 0) (a_cons (e_i) (a_nil)))))) (g_v 3 sc.nd) (ss_cons (s_set 6 sc.nd (e_call (h__law_times c) (hr.mono (by decide)) (a_cons (e_v 5) (a_cons (e_call (h__law_pick c) (hr.mono (by decide)) (a_cons (e_v 0) (a_cons (e_tup (a_cons (e_tup (a_cons (e_i) (a_cons (e_i) (a_nil)))) (a_cons (e_tup (a_cons (e_i) (a_cons (e_i) (a_nil)))) (a_cons (e_tup (a_cons (e_i) (a_cons (e_i) (a_nil)))) (a_cons (e_tup (a_cons (e_i) (a_cons (e_i) (a_nil)))) (a_cons (e_tup (a_cons (e_i) (a_cons (e_i) (a_nil)))) (a_cons (e_tup (a_cons (e_i) (a_cons (e_i) (a_nil)))) (a_nil)))))))) (a_nil)))) (a_nil)))))
    (ss_cons (s_par3 7 8 9 sc.nd (a_cons (e_call (h__law_high c) (hr.mono (by decide)) (a_cons (e_v 1) (a_cons (e_v 6) (a_nil)))) (a_cons (e_call (h__law_slack c) (hr.mono (by decide)) (a_cons (e_v 0) (a_nil))) (a_cons (e_call (h__law_draw c) (hr.mono (by decide)) (a_cons (e_v 0) (a_cons (e_i) (a_nil)))) (a_nil)))))
    (ss_cons (s_set 7 sc.nd (e_if (t_cm (op_eqX hr.units) rr_eq (e_v 9) (e_i)) (e_call (h__law_part c) (hr.mono (by decide)) (a_cons (e_v 0) (a_nil))) (e_if (t_cm op_lt rr_lt (e_v 9) (e_i)) (e_call (h__law_plus c) (hr.mono (by decide)) (a_cons (e_v 7) (a_cons (e_v 8) (a_nil)))) (e_call (h__law_less c) (hr.mono (by decide)) (a_cons (e_v 7) (a_cons (e_v 8) (a_nil)))))))
    (ss_one (s_app 4 (pv 4) (e_tup (a_cons (e_call (h__law_pick c) (hr.mono (by decide)) (a_cons (e_v 0) (a_cons (e_tup (a_cons (e_s "post") (a_cons (e_s "curtain") (a_nil)))) (a_nil)))) (a_cons (e_call (h__law_place c) (hr.mono (by decide)) (a_cons (e_v 6) (a_cons (e_v 7) (a_nil)))) (a_nil))))))))))
    (ss_one (s_ret (e_tupC 4 (pv 4) c.f_tuple b_tuple))))⟩
theorem sc__law_open_world : FnScope ["_law_well_here", "_law_jet_here", "_law_head", "_law_asks", "_law_turn"] ["_law_well_here"] (defScope (topS 131)) := ⟨rfl, rfl, rfl, by decide +kernel, rfl, by decide +kernel, by decide +kernel⟩
theorem h__law_open_world (c : Fx P w K mg base) : Has P w K mg base "_law_open_world" 8 1 G__law_open_world := by
  obtain ⟨fd, hm, F⟩ := c.d__law_open_world
  have sc := sc__law_open_world
  exact has_of hm F sc (fun _ _ _ _ _ _ us hl => match us, hl with | [_], _ => rfl) fun cdv A outer s H E hr => ⟨_,
    ss_cons (s_set 1 sc.nd (e_call (h__law_jet c) (hr.mono (by decide)) (a_cons (e_v 0) (a_nil))))
    (ss_cons (s_set 2 sc.nd (e_call (h__law_times c) (hr.mono (by decide)) (a_cons (e_call (h__law_own_head c) (hr.mono (by decide)) (a_cons (e_v 1) (a_nil))) (a_cons (e_call (h__law_pick c) (hr.mono (by decide)) (a_cons (e_v 0) (a_cons (e_tup (a_cons (e_tup (a_cons (e_i) (a_cons (e_i) (a_nil)))) (a_cons (e_tup (a_cons (e_i) (a_cons (e_i) (a_nil)))) (a_cons (e_tup (a_cons (e_i) (a_cons (e_i) (a_nil)))) (a_cons (e_tup (a_cons (e_i) (a_cons (e_i) (a_nil)))) (a_cons (e_tup (a_cons (e_i) (a_cons (e_i) (a_nil)))) (a_nil))))))) (a_nil)))) (a_nil)))))
    (ss_cons (s_setLcX (i := 3) [("_law_turn", 4)] rfl sc.nd rfl (i_rng1 c.f_range (e_call (h__law_pick c) (hr.mono (by decide)) (a_cons (e_v 0) (a_cons (e_tup (a_cons (e_i) (a_cons (e_i) (a_cons (e_i) (a_cons (e_i) (a_cons (e_i) (a_cons (e_i) (a_cons (e_i) (a_nil))))))))) (a_nil))))) (by show blkC ["_law_well_here", "_law_jet_here", "_law_head", "_law_asks", "_law_turn"] (defScope (topS 131)) _ _ = true; decide +kernel) (by decide) (fun _ _ _ _ _ => ⟨_, g_v 4 sc.nd⟩) (fun _ _ _ _ _ => ⟨_, q_nil⟩) (fun _ _ _ _ _ => ⟨_, e_call (h__law_near_ask c) (hr.mono (by decide)) (a_cons (e_v 0) (a_cons (e_v 1) (a_nil)))⟩))
    (ss_one (s_ret (e_tup (a_cons (e_v 2) (a_cons (e_ty cr_tupleX rb_tuple b_tuple c.f_tuple (a_cons (e_v 3) (a_nil))) (a_cons (e_v 1) (a_nil)))))))))⟩
theorem sc__law_target : FnScope ["_law_well_here", "_law_jet_here", "_law_high_here", "_law_x", "_law_slack_here", "_law_way"] ["_law_well_here", "_law_jet_here"] (defScope (topS 132)) := ⟨rfl, rfl, rfl, by decide +kernel, rfl, by decide +kernel, by decide +kernel⟩
theorem h__law_target (c : Fx P w K mg base) : Has P w K mg base "_law_target" 6 2 G__law_target := by
  obtain ⟨fd, hm, F⟩ := c.d__law_target
  have sc := sc__law_target
  exact has_of hm F sc (fun _ _ _ _ _ _ us hl => match us, hl with | [_, _], _ => rfl) fun cdv A outer s H E hr => ⟨_,
    ss_cons (s_par3 3 4 5 sc.nd (a_cons (e_call (h__law_size c) (hr.mono (by decide)) (a_cons (e_v 0) (a_nil))) (a_cons (e_call (h__law_slack c) (hr.mono (by decide)) (a_cons (e_v 0) (a_nil))) (a_cons (e_call (h__law_draw c) (hr.mono (by decide)) (a_cons (e_v 0) (a_cons (e_i) (a_nil)))) (a_nil)))))
    (ss_cons (s_set 2 sc.nd (e_call (h__law_plus c) (hr.mono (by decide)) (a_cons (e_call (h__law_high c) (hr.mono (by decide)) (a_cons (e_v 1) (a_cons (e_v 3) (a_nil)))) (a_cons (e_if (t_cm (op_eqX hr.units) rr_eq (e_call (h__law_draw c) (hr.mono (by decide)) (a_cons (e_v 0) (a_cons (e_i) (a_nil)))) (e_i)) (e_tup (a_cons (e_i) (a_cons (e_i) (a_nil)))) (e_tup (a_cons (e_i) (a_cons (e_i) (a_nil))))) (a_nil)))))
    (ss_one (s_ret (e_call (h__law_place c) (hr.mono (by decide)) (a_cons (e_v 3) (a_cons (e_if (t_cm op_lt rr_lt (e_v 5) (e_i)) (e_v 2) (e_if (t_cm (op_eqX hr.units) rr_eq (e_v 5) (e_i)) (e_call (h__law_plus c) (hr.mono (by decide)) (a_cons (e_v 2) (a_cons (e_v 4) (a_nil)))) (e_call (h__law_less c) (hr.mono (by decide)) (a_cons (e_v 2) (a_cons (e_v 4) (a_nil)))))) (a_nil)))))))⟩
theorem sc__law_fewest : FnScope ["_law_head", "_law_asks", "_law_place_here", "_law_guards_here", "_law_k", "_law_some", "_law_j"] ["_law_head", "_law_asks", "_law_place_here", "_law_guards_here"] (defScope (topS 133)) := ⟨rfl, rfl, rfl, by decide +kernel, rfl, by decide +kernel, by decide +kernel⟩
theorem h__law_fewest (c : Fx P w K mg base) : Has P w K mg base "_law_fewest" 12 4 G__law_fewest := by
  obtain ⟨fd, hm, F⟩ := c.d__law_fewest
  have sc := sc__law_fewest
  exact has_of hm F sc (fun _ _ _ _ _ _ us hl => match us, hl with | [_, _, _, _], _ => rfl) fun cdv A outer s H E hr => ⟨_,
    ss_cons (s_if (t_isN (e_call (h__law_wet c) (hr.mono (by decide)) (a_cons (e_v 0) (a_cons (e_v 1) (a_cons (e_v 2) (a_nil)))))) (ss_one (s_ret (e_tup (a_nil)))) (ss_nil))
    (ss_cons (s_for PassesOwn.never rfl (i_rng1 c.f_range (e_bl cr_lenX rb_len b_len c.f_len (a_cons (e_v 3) (a_nil)))) (g_v 4 sc.nd) (ss_one (s_if (t_val (e_call (h__law_guarded c) (hr.mono (by decide)) (a_cons (e_v 0) (a_cons (e_v 1) (a_cons (e_v 2) (a_cons (e_sl (e_v 3) (o_s (e_v 4)) (o_s (e_add (e_v 4) (e_i)))) (a_nil))))))) (ss_one (s_ret (e_tup (a_cons (e_v 4) (a_nil))))) (ss_nil))))
    (ss_cons (s_for PassesOwn.never rfl (i_rng1 c.f_range (e_bl cr_lenX rb_len b_len c.f_len (a_cons (e_v 3) (a_nil)))) (g_v 4 sc.nd) (ss_cons (s_setLcX (i := 5) [("_law_j", 6)] rfl sc.nd rfl (i_rng2 c.f_range (e_add (e_v 4) (e_i)) (e_bl cr_lenX rb_len b_len c.f_len (a_cons (e_v 3) (a_nil)))) (by show blkC ["_law_head", "_law_asks", "_law_place_here", "_law_guards_here", "_law_k", "_law_some", "_law_j"] (defScope (topS 133)) _ _ = true; decide +kernel) (by decide) (fun _ _ _ _ _ => ⟨_, g_v 6 sc.nd⟩) (fun _ _ _ _ _ => ⟨_, q_one (t_val (e_call (h__law_guarded c) (hr.mono (by decide)) (a_cons (e_v 0) (a_cons (e_v 1) (a_cons (e_v 2) (a_cons (e_tup (a_cons (e_ix (e_v 3) (e_v 4)) (a_cons (e_ix (e_v 3) (e_v 6)) (a_nil)))) (a_nil)))))))⟩) (fun _ _ _ _ _ => ⟨_, e_v 6⟩))
    (ss_one (s_if (t_cm (op_neX hr.units) rr_ne (e_v 5) (e_lst (a_nil))) (ss_one (s_ret (e_tup (a_cons (e_v 4) (a_cons (e_ix (e_v 5) (e_i)) (a_nil)))))) (ss_nil)))))
    (ss_one (s_ret (e_n)))))⟩
end
end Sp
namespace Sp
open PySem PySem.Spec PyProof.Rows L2
section
variable {P : Program} {w : World} {K : PySem.W.Frag} {mg : Str → Option Value} {base : Heap}
theorem sc_guards_hold : FnScope ["head", "asks", "place", "guards", "more", "word", "spot"] ["head", "asks", "place", "guards"] (defScope (topS 87)) := ⟨rfl, rfl, rfl, by decide +kernel, rfl, by decide +kernel, by decide +kernel⟩
theorem h_guards_hold (c : Fx P w K mg base) : Has P w K mg base "guards_hold" 11 4 G_guards_hold := by
  obtain ⟨fd, hm, F⟩ := c.d_guards_hold
  have sc := sc_guards_hold
  exact has_of hm F sc (fun _ _ _ _ _ _ us hl => match us, hl with | [_, _, _, _], _ => rfl) fun cdv A outer s H E hr => ⟨_,
    ss_cons (s_setLcX (i := 4) [("word", 5), ("spot", 6)] rfl sc.nd rfl (i_tup (e_v 3)) (by show blkC ["head", "asks", "place", "guards", "more", "word", "spot"] (defScope (topS 87)) _ _ = true; decide +kernel) (by decide) (fun _ _ _ _ _ => ⟨_, g_tup rfl (g_cons (g_v 5 sc.nd) (g_cons (g_v 6 sc.nd) (g_nil)))⟩) (fun _ _ _ _ _ => ⟨_, q_nil⟩) (fun _ _ _ _ _ => ⟨_, e_tup (a_cons (e_passed c (e_v 5)) (a_cons (e_v 6) (a_nil)))⟩))
    (ss_one (s_ret (e_isN (e_call (h_slopes_of c) (hr.mono (by decide)) (a_cons (e_v 0) (a_cons (e_tup (a_star (e_call (h_with_place c) (hr.mono (by decide)) (a_cons (e_v 1) (a_cons (e_v 2) (a_nil)))) (a_star (e_v 4) (a_nil)))) (a_nil)))))))⟩
theorem sc_is_guarded : FnScope ["head", "asks", "place", "guards"] ["head", "asks", "place", "guards"] (defScope (topS 88)) := ⟨rfl, rfl, rfl, by decide +kernel, rfl, by decide +kernel, by decide +kernel⟩
theorem h_is_guarded (c : Fx P w K mg base) : Has P w K mg base "is_guarded" 12 4 G_is_guarded := by
  obtain ⟨fd, hm, F⟩ := c.d_is_guarded
  have sc := sc_is_guarded
  exact has_of hm F sc (fun _ _ _ _ _ _ us hl => match us, hl with | [_, _, _, _], _ => rfl) fun cdv A outer s H E hr => ⟨_,
    ss_cons (s_drop (e_call (h_check_guarded c) (hr.mono (by decide)) (a_cons (e_v 0) (a_cons (e_v 1) (a_cons (e_v 2) (a_cons (e_v 3) (a_nil)))))))
    (ss_one (s_ret (e_call (h_guards_hold c) (hr.mono (by decide)) (a_cons (e_v 0) (a_cons (e_v 1) (a_cons (e_v 2) (a_cons (e_v 3) (a_nil))))))))⟩
theorem sc_fewest_guards : FnScope ["head", "asks", "place", "guards", "index", "guard", "later"] ["head", "asks", "place", "guards"] (defScope (topS 89)) := ⟨rfl, rfl, rfl, by decide +kernel, rfl, by decide +kernel, by decide +kernel⟩
theorem h_fewest_guards (c : Fx P w K mg base) : Has P w K mg base "fewest_guards" 12 4 G_fewest_guards := by
  obtain ⟨fd, hm, F⟩ := c.d_fewest_guards
  have sc := sc_fewest_guards
  exact has_of hm F sc (fun _ _ _ _ _ _ us hl => match us, hl with | [_, _, _, _], _ => rfl) fun cdv A outer s H E hr => ⟨_,
    ss_cons (s_drop (e_call (h_check_guarded c) (hr.mono (by decide)) (a_cons (e_v 0) (a_cons (e_v 1) (a_cons (e_v 2) (a_cons (e_v 3) (a_nil)))))))
    (ss_cons (s_if (t_val (e_call (h_guards_hold c) (hr.mono (by decide)) (a_cons (e_v 0) (a_cons (e_v 1) (a_cons (e_v 2) (a_cons (e_tup (a_nil)) (a_nil))))))) (ss_one (s_ret (e_tup (a_nil)))) (ss_nil))
    (ss_cons (s_for PassesOwn.never rfl (i_en c.f_enumerate (e_v 3)) (g_tup rfl (g_cons (g_v 4 sc.nd) (g_cons (g_v 5 sc.nd) (g_nil)))) (ss_one (s_if (t_val (e_call (h_guards_hold c) (hr.mono (by decide)) (a_cons (e_v 0) (a_cons (e_v 1) (a_cons (e_v 2) (a_cons (e_tup (a_cons (e_v 5) (a_nil))) (a_nil))))))) (ss_one (s_ret (e_tup (a_cons (e_v 4) (a_nil))))) (ss_nil))))
    (ss_cons (s_for PassesOwn.never rfl (i_rng1 c.f_range (e_bl cr_lenX rb_len b_len c.f_len (a_cons (e_v 3) (a_nil)))) (g_v 4 sc.nd) (ss_one (s_for PassesOwn.never rfl (i_rng2 c.f_range (e_add (e_v 4) (e_i)) (e_bl cr_lenX rb_len b_len c.f_len (a_cons (e_v 3) (a_nil)))) (g_v 6 sc.nd) (ss_one (s_if (t_val (e_call (h_guards_hold c) (hr.mono (by decide)) (a_cons (e_v 0) (a_cons (e_v 1) (a_cons (e_v 2) (a_cons (e_tup (a_cons (e_ix (e_v 3) (e_v 4)) (a_cons (e_ix (e_v 3) (e_v 6)) (a_nil)))) (a_nil))))))) (ss_one (s_ret (e_tup (a_cons (e_v 4) (a_cons (e_v 6) (a_nil)))))) (ss_nil))))))
    (ss_one (s_ret (e_n))))))⟩
end
end Sp
namespace Sp
open PySem PySem.Spec PyProof.Rows L2
/-! ### fewest_guards by keywords; _law_right -/
section
variable {P : Program} {w : World} {K : PySem.W.Frag} {mg : Str → Option Value} {base : Heap}
theorem k_fewest (c : Fx P w K mg base) : ∃ fd, mg "fewest_guards" = some (.ref (He.ga K "fewest_guards")) ∧ FnOk P w K mg base CX0 12 (He.ga K "fewest_guards") fd ["head", "asks", "place", "guards"] (spG K 4 G_fewest_guards) ∧ PySem.W.keepIn K (.ref (He.ga K "fewest_guards")) = true ∧ KBinds K fd ["head", "asks", "place", "guards"] ["place", "guards"] g22 g22 := by
  obtain ⟨fd, hm, F⟩ := c.d_fewest_guards
  have sc := sc_fewest_guards
  refine ⟨fd, hm, F.ok sc (fun vs H Q E q => q.1) fun cdv A outer s H vs Q E hr hsp => ?_, F.kp, ?_⟩
  · have step : ∃ t, LSs (cxOf CX0 P w K mg base ["head", "asks", "place", "guards", "index", "guard", "later"] "fewest_guards" (defScope (topS 89)) (He.ga K "fewest_guards") cdv A outer s H E).nox (defBody (topS 89)) t B_fewest_guards := ⟨_, ss_cons (s_drop (e_call (h_check_guarded c) (hr.mono (by decide)) (a_cons (e_v 0) (a_cons (e_v 1) (a_cons (e_v 2) (a_cons (e_v 3) (a_nil)))))))
    (ss_cons (s_if (t_val (e_call (h_guards_hold c) (hr.mono (by decide)) (a_cons (e_v 0) (a_cons (e_v 1) (a_cons (e_v 2) (a_cons (e_tup (a_nil)) (a_nil))))))) (ss_one (s_ret (e_tup (a_nil)))) (ss_nil))
    (ss_cons (s_for PassesOwn.never rfl (i_en c.f_enumerate (e_v 3)) (g_tup rfl (g_cons (g_v 4 sc.nd) (g_cons (g_v 5 sc.nd) (g_nil)))) (ss_one (s_if (t_val (e_call (h_guards_hold c) (hr.mono (by decide)) (a_cons (e_v 0) (a_cons (e_v 1) (a_cons (e_v 2) (a_cons (e_tup (a_cons (e_v 5) (a_nil))) (a_nil))))))) (ss_one (s_ret (e_tup (a_cons (e_v 4) (a_nil))))) (ss_nil))))
    (ss_cons (s_for PassesOwn.never rfl (i_rng1 c.f_range (e_bl cr_lenX rb_len b_len c.f_len (a_cons (e_v 3) (a_nil)))) (g_v 4 sc.nd) (ss_one (s_for PassesOwn.never rfl (i_rng2 c.f_range (e_add (e_v 4) (e_i)) (e_bl cr_lenX rb_len b_len c.f_len (a_cons (e_v 3) (a_nil)))) (g_v 6 sc.nd) (ss_one (s_if (t_val (e_call (h_guards_hold c) (hr.mono (by decide)) (a_cons (e_v 0) (a_cons (e_v 1) (a_cons (e_v 2) (a_cons (e_tup (a_cons (e_ix (e_v 3) (e_v 4)) (a_cons (e_ix (e_v 3) (e_v 6)) (a_nil)))) (a_nil))))))) (ss_one (s_ret (e_tup (a_cons (e_v 4) (a_cons (e_v 6) (a_nil)))))) (ss_nil))))))
    (ss_one (s_ret (e_n))))))⟩
    obtain ⟨t, ht⟩ := step
    exact ⟨t, PSs.nox ht.pe, def_run ht.rd hsp⟩
  · obtain ⟨oc, od, dV, kV, doc, pm, an, cdv, ct, osl, rfl, lk, hcd, hD, hK⟩ := F.ex
    rcases hD with ⟨_, rfl⟩ | ⟨z, _⟩
    · exact kb22 rfl fun a b c d => rfl
    · exact absurd rfl z
theorem sc_right : FnScope ["_law_well_here", "_law_place_here", "_law_guards_here", "_law_due", "_law_told", "_law_head", "_law_asks", "_law_jet_here", "_law_k"] ["_law_well_here"] (defScope (topS 134)) := ⟨rfl, rfl, rfl, by decide +kernel, rfl, by decide +kernel, by decide +kernel⟩
end
section
variable {X : Cx} {pos : Pos} {a1 a2 a3 a4 : Expr} {t1 t2 t3 t4 : TE} {g1 g2 g3 g4 : GE}
theorem two_len {ga gb : GE} : ∀ ss w xs w1, xConsA ga (xConsA gb xNilA) ss w = some (xs, w1) → xs.length = 2 := fun ss w xs w1 h => by
  unfold xConsA xNilA at h
  obtain ⟨p, _, h⟩ := Option.bind_eq_some_iff.mp h
  obtain ⟨q, h2, h⟩ := Option.map_eq_some_iff.mp h
  obtain ⟨r, _, h2⟩ := Option.bind_eq_some_iff.mp h2
  cases h2
  cases h
  rfl
theorem e_callK_fewest_guards {p q1 q2 : Pos} (c : Fx X.prog X.w X.K X.mg X.base) (hr : Room 12 X.A) (h1 : LE X a1 t1 g1) (h2 : LE X a2 t2 g2) (h3 : LE X a3 t3 g3) (h4 : LE X a4 t4 g4) (hg : Gl X "fewest_guards" := by rfl) (e1 : starEach [a1, a2] X.env = (false, eval a1 X.env) :: starEach [a2] X.env := by rfl) (e2 : starEach [a2] X.env = (false, eval a2 X.env) :: starEach [] X.env := by rfl)
    (hall : (backToKw pos (keywordEach [⟨some "place", a3, q1⟩, ⟨some "guards", a4, q2⟩] X.env)).all (·.1.isSome) = true := by rfl) (hks : (backToKw pos (keywordEach [⟨some "place", a3, q1⟩, ⟨some "guards", a4, q2⟩] X.env)).filterMap (·.1) = (["place", "guards"] : List Str) := by rfl)
    (hpl : ((backTo pos (starEach [a1, a2] X.env)).any (·.1) || (backToKw pos (keywordEach [⟨some "place", a3, q1⟩, ⟨some "guards", a4, q2⟩] X.env)).any (·.1.isNone)) = false := by rfl) :
    LE X (.Call (.Name "fewest_guards" p) [a1, a2] [⟨some "place", a3, q1⟩, ⟨some "guards", a4, q2⟩] pos) (tCallK (spG X.K 4 G_fewest_guards) g22 E0 (tCons t1 (tCons t2 tNil)) (tCons t3 (tCons t4 tNil))) (xCall G_fewest_guards (xConsA g1 (xConsA g2 (xConsA g3 (xConsA g4 xNilA))))) := by
  refine ⟨?_, rd_callK (n := 4) (rd_consA h1.rd (rd_consA h2.rd rd_nilA)) (rd_consA h3.rd (rd_consA h4.rd rd_nilA)) (fun as w r h => xDef_len as w r h) two_len two_len fun ss w => ?_⟩
  · obtain ⟨fd, hm, F, kp, KB⟩ := k_fewest c
    exact pe_callK F hr hg hm kp KB pass0 (pa_cons h1.pe (pa_cons h2.pe pa_nil e2) e1) (pk_cons h3.pe (pk_cons h4.pe pk_nil)) hall hks (by decide) e1 hpl
  · unfold xConsA xNilA
    cases g1 ss w with
    | none => rfl
    | some p1 =>
      dsimp only [Option.bind_some]
      cases g2 ss p1.2 with
      | none => rfl
      | some p2 =>
        dsimp only [Option.bind_some, Option.map_some]
        cases g3 ss p2.2 with
        | none => rfl
        | some p3 =>
          dsimp only [Option.bind_some, Option.map_some]
          cases g4 ss p3.2 <;> rfl
end
section
variable {P : Program} {w : World} {K : PySem.W.Frag} {mg : Str → Option Value} {base : Heap}
/-- _law_right's body, where no repr is under way -/
theorem w_right (c : Fx P w K mg base) {fd : FuncData} (F : FunD K "_law_right" "_law_right" (defArgs (topS 134)) (defBody (topS 134)) (defScope (topS 134)) [] [] (He.ga K "_law_right") fd) {B : Around} {out : List Env} {t : Shared} {H : Hp} {E : XK} {cdv : Value} {vs : List V} {Q : VK}
    (hr : Room 12 (B.deeper (envOfC "_law_right" (defScope (topS 134)) t.heap.objs.size (He.ga K "_law_right") cdv))) (hg : B.guards = some []) (hsp : spG K 1 G__law_right vs H Q E) :
    ∃ r, PSs (cxOf CX0 P w K mg base ["_law_well_here", "_law_place_here", "_law_guards_here", "_law_due", "_law_told", "_law_head", "_law_asks", "_law_jet_here", "_law_k"] "_law_right" (defScope (topS 134)) (He.ga K "_law_right") cdv B out t H E) (defBody (topS 134)) r ∧ r { nx := fun _ H' => Q .non H', rt := Q } (L2.start ["_law_well_here", "_law_place_here", "_law_guards_here", "_law_due", "_law_told", "_law_head", "_law_asks", "_law_jet_here", "_law_k"] vs) H := by
  have sc := sc_right
  have step : ∃ t', LSs (cxOf CX0 P w K mg base ["_law_well_here", "_law_place_here", "_law_guards_here", "_law_due", "_law_told", "_law_head", "_law_asks", "_law_jet_here", "_law_k"] "_law_right" (defScope (topS 134)) (He.ga K "_law_right") cdv B out t H E).nox (defBody (topS 134)) t' B__law_right := ⟨_, ss_cons (s_asg (e_call (h__law_open_world c) (hr.mono (by decide)) (a_cons (e_v 0) (a_nil))) (g_tup rfl (g_cons (g_v 5 sc.nd) (g_cons (g_v 6 sc.nd) (g_cons (g_v 7 sc.nd) (g_nil))))))
    (ss_cons (s_set 1 sc.nd (e_call (h__law_target c) (hr.mono (by decide)) (a_cons (e_v 0) (a_cons (e_v 7) (a_nil)))))
    (ss_cons (s_set 2 sc.nd (e_add (e_call (h__law_guards c) (hr.mono (by decide)) (a_cons (e_v 0) (a_cons (e_v 7) (a_cons (e_v 1) (a_nil))))) (e_sl (e_call (h__law_guards c) (hr.mono (by decide)) (a_cons (e_v 0) (a_cons (e_v 7) (a_cons (e_v 1) (a_nil))))) (o_n) (o_s (e_i)))))
    (ss_cons (s_set 3 sc.nd (e_call (h__law_fewest c) (hr.mono (by decide)) (a_cons (e_v 5) (a_cons (e_v 6) (a_cons (e_v 1) (a_cons (e_v 2) (a_nil)))))))
    (ss_cons (s_set 4 sc.nd (e_callK_fewest_guards c (hr.mono (by decide)) (e_v 5) (e_v 6) (e_v 1) (e_v 2)))
    (ss_cons (s_if (t_cm (op_neX hr.units) rr_ne (e_repr hg hr.units c.f_repr (e_v 4)) (e_repr hg hr.units c.f_repr (e_v 3))) (ss_one (s_ret (e_b))) (ss_nil))
    (ss_cons (s_if (t_cm (op_eqX hr.units) rr_eq (e_isN (e_v 3)) (e_call (h__law_guarded c) (hr.mono (by decide)) (a_cons (e_v 5) (a_cons (e_v 6) (a_cons (e_v 1) (a_cons (e_v 2) (a_nil))))))) (ss_one (s_ret (e_b))) (ss_nil))
    (ss_cons (s_if (t_w (w_or (t_isN (e_v 3)) (w_or1 (t_cm (op_eqX hr.units) rr_eq (e_v 3) (e_tup (a_nil)))))) (ss_one (s_ret (e_cm (op_eqX hr.units) rr_eq (e_repr hg hr.units c.f_repr (e_call (h_is_guarded c) (hr.mono (by decide)) (a_cons (e_v 5) (a_cons (e_v 6) (a_cons (e_v 1) (a_cons (e_v 2) (a_nil))))))) (e_repr hg hr.units c.f_repr (e_cm (op_eqX hr.units) rr_eq (e_v 3) (e_tup (a_nil))))))) (ss_nil))
    (ss_one (s_ret (e_isTrue (e_call (h_is_guarded c) (hr.mono (by decide)) (a_cons (e_v 5) (a_cons (e_v 6) (a_cons (e_v 1) (a_cons (e_ty cr_tupleX rb_tuple b_tuple c.f_tuple (a_cons (e_lcX [("_law_k", 8)] rfl sc.nd (i_tup (e_v 4)) (by show blkC ["_law_well_here", "_law_place_here", "_law_guards_here", "_law_due", "_law_told", "_law_head", "_law_asks", "_law_jet_here", "_law_k"] (defScope (topS 134)) _ _ = true; decide +kernel) (by decide) (fun _ _ _ _ _ => ⟨_, g_v 8 sc.nd⟩) (fun _ _ _ _ _ => ⟨_, q_nil⟩) (fun _ _ _ _ _ => ⟨_, e_ix (e_v 2) (e_v 8)⟩)) (a_nil))) (a_nil))))))))))))))))⟩
  obtain ⟨t', ht⟩ := step
  exact ⟨t', PSs.nox ht.pe, def_run ht.rd hsp⟩
end
theorem e_right {X : Cx} (c : Fx X.prog X.w X.K X.mg X.base) (hr : Room 13 X.A) (hgd : X.A.guards = some []) {e : Expr} {ta : TA} {p pos : Pos} (ha : PA X [e] ta) (hg : Gl X "_law_right" := by rfl) (he : starEach [e] X.env = (false, eval e X.env) :: starEach [] X.env := by rfl) (hpl : (backTo pos (starEach [] X.env)).any (·.1) = false := by rfl) :
    PE X (.Call (.Name "_law_right" p) [e] [] pos) (tCall (spG X.K 1 G__law_right) [] E0 ta) := by
  obtain ⟨fd, hm, F⟩ := c.d__law_right
  exact pe_at F sc_right hr hm (F.bindsN fun _ _ _ _ _ _ us hl => match us, hl with | [_], _ => rfl) (fun vs H Q E q => q.1) (fun cdv t vs H Q room hsp => w_right c F room hgd hsp) ha hg (by decide) he hpl
end Sp
/-! PU 1: how the pure readings are evaluated; fractions. -/
namespace Sp
/-- a fraction as the program holds it -/
def enc (r : Rat) : A := .tup [.int r.num, .int r.den]
/-! ### sizes -/
def IS (n : Nat) (i : Int) : Prop := i.natAbs < 2 ^ n
structure Sz (n : Nat) (r : Rat) : Prop where
  num : IS n r.num
  den : r.den < 2 ^ n
theorem p2_mono {m n : Nat} (h : m ≤ n) : 2 ^ m ≤ 2 ^ n := Nat.pow_le_pow_right (by decide) h
theorem IS.mono {m n : Nat} {i : Int} (h : IS m i) (hn : m ≤ n) : IS n i := Nat.lt_of_lt_of_le h (p2_mono hn)
theorem Sz.mono {m n : Nat} {r : Rat} (h : Sz m r) (hn : m ≤ n) : Sz n r := ⟨h.num.mono hn, Nat.lt_of_lt_of_le h.den (p2_mono hn)⟩
theorem Sz.dn {n : Nat} {r : Rat} (h : Sz n r) : IS n (r.den : Int) := h.den
theorem IS.mul {m n : Nat} {i j : Int} (h : IS m i) (g : IS n j) : IS (m + n) (i * j) := by
  unfold IS at *
  rw [Int.natAbs_mul, Nat.pow_add]
  exact Nat.mul_lt_mul'' h g
theorem IS.add {n : Nat} {i j : Int} (h : IS n i) (g : IS n j) : IS (n + 1) (i + j) := by
  unfold IS at *
  rw [Nat.pow_succ]
  omega
theorem IS.sub {n : Nat} {i j : Int} (h : IS n i) (g : IS n j) : IS (n + 1) (i - j) := by
  unfold IS at *
  rw [Nat.pow_succ]
  omega
theorem IS.neg {n : Nat} {i : Int} (h : IS n i) : IS n (-i) := by
  unfold IS at *
  omega
theorem log2_le {n x : Nat} (h : x < 2 ^ n) : x.log2 ≤ n := by
  by_cases hx : x = 0
  · subst hx
    simp
  · exact Nat.le_of_lt ((Nat.log2_lt hx).mpr h)
theorem mulOk_of {m n : Nat} {i j : Int} (h : IS m i) (g : IS n j) (hs : m + n < 1000000) : mulOk i j = true := by
  have h1 := log2_le h
  have h2 := log2_le g
  exact decide_eq_true (by omega)
theorem div_ok {n : Nat} {j : Int} (h : IS n j) (h0 : j ≠ 0) (hn : n ≤ 9000) : j.natAbs.log2 < 9000 := by
  have h1 : j.natAbs ≠ 0 := by omega
  exact Nat.lt_of_lt_of_le ((Nat.log2_lt h1).mpr h) hn
theorem Sz.divInt {n : Nat} {a b : Int} (h : IS n a) (g : IS n b) (hb : b ≠ 0) : Sz n (Rat.divInt a b) := by
  have hg : 0 < Int.gcd b a := Int.gcd_pos_of_ne_zero_left _ hb
  refine ⟨?_, ?_⟩
  · rw [Rat.num_divInt]
    unfold IS
    refine Nat.lt_of_le_of_lt ?_ h
    have h1 : (b.sign * a / (Int.gcd b a : Int)).natAbs ≤ (b.sign * a).natAbs := by
      rw [Int.natAbs_ediv_of_dvd (Int.dvd_trans (Int.gcd_dvd_right b a) (Int.dvd_mul_left _ _))]
      exact Nat.div_le_self _ _
    have h2 : (b.sign * a).natAbs = a.natAbs := by
      rw [Int.natAbs_mul, Int.natAbs_sign_of_ne_zero hb, Nat.one_mul]
    omega
  · rw [Rat.den_divInt, if_neg hb]
    exact Nat.lt_of_le_of_lt (Nat.div_le_self _ _) g
theorem rat_add (a b : Rat) : a + b = Rat.divInt (a.num * b.den + b.num * a.den) (a.den * b.den) := by
  rw [Rat.add_def', ← Rat.divInt_ofNat]
  simp
theorem rat_sub (a b : Rat) : a - b = Rat.divInt (a.num * b.den - b.num * a.den) (a.den * b.den) := by
  rw [Rat.sub_def', ← Rat.divInt_ofNat]
  simp
theorem rat_mul (a b : Rat) : a * b = Rat.divInt (a.num * b.num) (a.den * b.den) := by
  rw [Rat.mul_def', ← Rat.divInt_ofNat]
  simp
theorem rat_div (a b : Rat) : a / b = Rat.divInt (a.num * b.den) (a.den * b.num) := by
  have h : b⁻¹ = Rat.divInt b.den b.num := by
    rw [← Rat.inv_divInt, Rat.num_divInt_den]
  rw [Rat.div_def, h]
  conv => lhs; rw [← Rat.num_divInt_den a]
  rw [Rat.divInt_mul_divInt]
theorem dn0 (a : Rat) : (a.den : Int) ≠ 0 := by
  have := a.den_pos
  omega
theorem dn00 (a b : Rat) : (a.den : Int) * b.den ≠ 0 := Int.mul_ne_zero (dn0 a) (dn0 b)
theorem Sz.add {m n : Nat} {a b : Rat} (h : Sz m a) (g : Sz n b) : Sz (m + n + 1) (a + b) := by
  rw [rat_add]
  refine Sz.divInt ((h.num.mul g.dn).add ?_) ((h.dn.mul g.dn).mono (by omega)) (dn00 _ _)
  have := g.num.mul h.dn
  rwa [Nat.add_comm] at this
theorem Sz.sub {m n : Nat} {a b : Rat} (h : Sz m a) (g : Sz n b) : Sz (m + n + 1) (a - b) := by
  rw [rat_sub]
  refine Sz.divInt ((h.num.mul g.dn).sub ?_) ((h.dn.mul g.dn).mono (by omega)) (dn00 _ _)
  have := g.num.mul h.dn
  rwa [Nat.add_comm] at this
theorem Sz.mul {m n : Nat} {a b : Rat} (h : Sz m a) (g : Sz n b) : Sz (m + n) (a * b) := by
  rw [rat_mul]
  exact Sz.divInt (h.num.mul g.num) (h.dn.mul g.dn) (dn00 _ _)
theorem num0 {b : Rat} (hb : b ≠ 0) : b.num ≠ 0 := fun h => hb (Rat.num_eq_zero.mp h)
theorem Sz.div {m n : Nat} {a b : Rat} (h : Sz m a) (g : Sz n b) (hb : b ≠ 0) : Sz (m + n) (a / b) := by
  rw [rat_div]
  exact Sz.divInt (h.num.mul g.dn) (h.dn.mul g.num) (Int.mul_ne_zero (dn0 a) (num0 hb))
theorem Sz.neg {n : Nat} {a : Rat} (h : Sz n a) : Sz n (-a) := ⟨by rw [Rat.neg_num]; exact h.num.neg, by rw [Rat.neg_den]; exact h.den⟩
/-! ### the program's fractions -/
theorem G_sign_of_eq (a : Int) (w : W) : G_sign_of [.int a] w = some (.int a.sign, w) := by
  simp [G_sign_of, B_sign_of]
  rcases Int.lt_trichotomy a 0 with h | h | h
  · have : ¬ 0 < a := by omega
    simp [h, this, Int.sign_eq_neg_one_of_neg h]
  · subst h; simp
  · simp [h, Int.sign_eq_one_of_pos h]
theorem G_divisor_of2 (a b : Int) (w : W) : G_divisor_of [.tup [.int a, .int b]] w = some (.int (Int.gcd a b), w) := by
  simp [G_divisor_of, B_divisor_of]
  rfl
theorem gcd_is {n : Nat} {a b : Int} (h : IS n b) (h0 : b ≠ 0) : IS n (Int.gcd a b : Int) := by
  unfold IS
  rw [Int.natAbs_natCast]
  exact Nat.lt_of_le_of_lt (Nat.le_of_dvd (by omega) (Nat.gcd_dvd_right _ _)) h
theorem gcd_pos {a b : Int} (h0 : b ≠ 0) : 0 < (Int.gcd a b : Int) := by
  have := Int.gcd_pos_of_ne_zero_right a h0
  omega
theorem fdiv_pos {a g : Int} (hg : 0 < g) : a.fdiv g = a / g := Int.fdiv_eq_ediv_of_nonneg _ (Int.le_of_lt hg)
theorem enc_divInt {a b : Int} (hb : b ≠ 0) : enc (Rat.divInt a b) = .tup [.int (b.sign * a / (Int.gcd a b : Int)), .int ((b.natAbs : Int) / (Int.gcd a b : Int))] := by
  unfold enc
  rw [Rat.num_divInt, Rat.den_divInt, if_neg hb, Int.gcd_comm b a, Int.natCast_ediv]
theorem fdiv_negg {x g : Int} (hg : 0 < g) (hx : g ∣ x) : x.fdiv (-g) = (-x) / g := by
  obtain ⟨k, rfl⟩ := hx
  have h1 : g * k = (-g) * (-k) := (Int.neg_mul_neg g k).symm
  have h2 : -(g * k) = g * (-k) := (Int.mul_neg g k).symm
  rw [h2, Int.mul_ediv_cancel_left _ (by omega), h1, Int.mul_fdiv_cancel_left _ (by omega)]
theorem G_ratio_eq {n : Nat} {a b : Int} {w : W} (hb : b ≠ 0) (h : IS n b) (hn : n ≤ 9000) : G_ratio [.int a, .int b] w = some (enc (Rat.divInt a b), w) := by
  have hg := gcd_pos (a := a) hb
  have hd := div_ok (gcd_is (a := a) h hb) (by omega) hn
  have hg2 : ¬ Int.gcd a b = 0 := by omega
  rw [enc_divInt hb]
  simp only [Int.natAbs_natCast] at hd
  simp [G_ratio, B_ratio, G_divisor_of2]
  rcases Int.lt_trichotomy b 0 with h1 | h1 | h1
  · have h2 : ¬ 0 < b := by omega
    have h3 : (b.natAbs : Int) = -b := by omega
    simp only [h2, hd, hg2, Int.sign_eq_neg_one_of_neg h1, fdiv_negg hg (Int.gcd_dvd_left a b), fdiv_negg hg (Int.gcd_dvd_right a b), h3]
    simp [hd, hg2, fdiv_negg hg (Int.gcd_dvd_left a b), fdiv_negg hg (Int.gcd_dvd_right a b)]
  · exact absurd h1 hb
  · have h3 : (b.natAbs : Int) = b := by omega
    simp [h1, hd, hg2, Int.sign_eq_one_of_pos h1, fdiv_pos hg]
    rw [h3]
@[simp] theorem ix0 (a b : A) : ([a, b] : List A)[0]? = some a := rfl
theorem G_ratio_sum_eq {m n : Nat} {a b : Rat} {w : W} (h : Sz m a) (g : Sz n b) (hs : m + n ≤ 9000 := by omega) : G_ratio_sum [enc a, enc b] w = some (enc (a + b), w) := by
  have e := G_ratio_eq (w := w) (a := a.num * b.den + b.num * a.den) (dn00 a b) (h.dn.mul g.dn) hs
  rw [rat_add]
  simp [G_ratio_sum, B_ratio_sum, enc, mulOk_of h.num g.dn (by omega), mulOk_of g.num h.dn (by omega), mulOk_of h.dn g.dn (by omega), e]
theorem G_ratio_less_eq {m n : Nat} {a b : Rat} {w : W} (h : Sz m a) (g : Sz n b) (hs : m + n ≤ 9000 := by omega) : G_ratio_less [enc a, enc b] w = some (enc (a - b), w) := by
  have e := G_ratio_eq (w := w) (a := a.num * b.den - b.num * a.den) (dn00 a b) (h.dn.mul g.dn) hs
  rw [rat_sub]
  simp [G_ratio_less, B_ratio_less, enc, mulOk_of h.num g.dn (by omega), mulOk_of g.num h.dn (by omega), mulOk_of h.dn g.dn (by omega), e]
theorem G_ratio_product_eq {m n : Nat} {a b : Rat} {w : W} (h : Sz m a) (g : Sz n b) (hs : m + n ≤ 9000 := by omega) : G_ratio_product [enc a, enc b] w = some (enc (a * b), w) := by
  have e := G_ratio_eq (w := w) (a := a.num * b.num) (dn00 a b) (h.dn.mul g.dn) hs
  rw [rat_mul]
  simp [G_ratio_product, B_ratio_product, enc, mulOk_of h.num g.num (by omega), mulOk_of h.dn g.dn (by omega), e]
theorem G_ratio_over_eq {m n : Nat} {a b : Rat} {w : W} (h : Sz m a) (g : Sz n b) (hb : b ≠ 0) (hs : m + n ≤ 9000 := by omega) : G_ratio_over [enc a, enc b] w = some (enc (a / b), w) := by
  have e := G_ratio_eq (w := w) (a := a.num * b.den) (Int.mul_ne_zero (dn0 a) (num0 hb)) (h.dn.mul g.num) hs
  rw [rat_div]
  simp [G_ratio_over, B_ratio_over, enc, mulOk_of h.num g.dn (by omega), mulOk_of h.dn g.num (by omega), e]
theorem G_ratio_back_eq {a : Rat} {w : W} : G_ratio_back [enc a] w = some (enc (-a), w) := by
  simp [G_ratio_back, B_ratio_back, enc, Rat.neg_num, Rat.neg_den]
theorem G_is_lower_eq {m n : Nat} {a b : Rat} {w : W} (h : Sz m a) (g : Sz n b) (hs : m + n < 1000000 := by omega) : G_is_lower [enc a, enc b] w = some (.bl (decide (a < b)), w) := by
  simp [G_is_lower, B_is_lower, enc, mulOk_of h.num g.dn (by omega), mulOk_of g.num h.dn (by omega), Rat.lt_iff]
end Sp
/-! PU 2: the law's fractions. -/
namespace Sp
theorem xDef_eq {n N : Nat} {g : GS} {as : List A} {w : W} (h : as.length = n) : xDef n N g as w = xDef.xRun (g (startSS N as) w) := if_pos h
theorem map_id0 {α : Type} (o : Option α) : o.map (fun a => a) = o := by cases o <;> rfl
/-! ### Euclid's walk -/
noncomputable section
def eucB : GS := xSeq (xIfS (xT (xOp fEq (xVar 5) (xC (.int 0)))) (xBrk) (xNext))
  (xPar2 4 5 (xConsA (xVar 5) (xConsA (xOp fMod (xBlt bInt (xConsA (xVar 4) (xNilA))) (xVar 5)) (xNilA))))
theorem euc_step (a0 a1 a2 s : Option A) (x y : Nat) (hy : 0 < y) (w : W) : eucB [a0, a1, a2, s, some (.int x), some (.int y)] w = some (.nx [a0, a1, a2, s, some (.int y), some (.int (x % y : Nat))] w) := by
  have h : ¬ y = 0 := by omega
  simp [eucB, h, hy]
theorem euc_stop (a0 a1 a2 s : Option A) (x : Nat) (w : W) : eucB [a0, a1, a2, s, some (.int x), some (.int 0)] w = some (.bk [a0, a1, a2, s, some (.int x), some (.int 0)] w) := by
  simp [eucB]
theorem half_mod {n x y : Nat} (h : y < 2 ^ (n + 1)) (hy : 0 < y) (h1 : 0 < x % y) : y % (x % y) < 2 ^ n := by
  have h2 : x % y < y := Nat.mod_lt _ hy
  have h3 : y % (x % y) < x % y := Nat.mod_lt _ h1
  rw [Nat.pow_succ] at h
  by_cases h4 : 2 * (x % y) ≤ y
  · omega
  · have h5 : y % (x % y) = y - x % y := by
      rw [Nat.mod_eq_sub_mod (by omega), Nat.mod_eq_of_lt (by omega)]
    omega
theorem euc_walk (a0 a1 a2 : Option A) (w : W) : ∀ (n x y : Nat) (l : List A) (s : Option A), y < 2 ^ n → 2 * n ≤ l.length → ∃ z, forLoop (xName 3) eucB l [a0, a1, a2, s, some (.int x), some (.int y)] w = some (.nx [a0, a1, a2, z, some (.int (Nat.gcd x y : Nat)), some (.int 0)] w) := by
  intro n
  have stop : ∀ (x : Nat) (l : List A) (s : Option A), ∃ z, forLoop (xName 3) eucB l [a0, a1, a2, s, some (.int x), some (.int 0)] w = some (.nx [a0, a1, a2, z, some (.int (Nat.gcd x 0 : Nat)), some (.int 0)] w) := fun x l s => by
    cases l with
    | nil => exact ⟨s, by simp⟩
    | cons a r => exact ⟨some a, by simp [euc_stop]⟩
  induction n with
  | zero =>
    intro x y l s hy _
    have : y = 0 := by simpa using hy
    subst this
    exact stop x l s
  | succ n ih =>
    intro x y l s hy hl
    by_cases h0 : y = 0
    · subst h0
      exact stop x l s
    · match l, hl with
      | a :: b :: r, hl =>
        have e1 : forLoop (xName 3) eucB (a :: b :: r) [a0, a1, a2, s, some (.int x), some (.int y)] w = forLoop (xName 3) eucB (b :: r) [a0, a1, a2, some a, some (.int y), some (.int (x % y : Nat))] w := by
          conv => lhs; unfold forLoop
          simp only [xName, List.set_cons_succ, List.set_cons_zero, Option.bind_some]
          rw [euc_step _ _ _ _ _ _ (by omega)]
          rfl
        rw [e1]
        have g1 : Nat.gcd x y = Nat.gcd y (x % y) := by
          rw [Nat.gcd_comm x y, Nat.gcd_rec y x, Nat.gcd_comm]
        by_cases h1 : x % y = 0
        · rw [g1, h1]
          exact stop y (b :: r) (some a)
        · have e2 : forLoop (xName 3) eucB (b :: r) [a0, a1, a2, some a, some (.int y), some (.int (x % y : Nat))] w = forLoop (xName 3) eucB r [a0, a1, a2, some b, some (.int (x % y : Nat)), some (.int (y % (x % y) : Nat))] w := by
            conv => lhs; unfold forLoop
            simp only [xName, List.set_cons_succ, List.set_cons_zero, Option.bind_some]
            rw [euc_step _ _ _ _ _ _ (by omega)]
            rfl
          rw [e2]
          have g2 : Nat.gcd y (x % y) = Nat.gcd (x % y) (y % (x % y)) := by
            rw [Nat.gcd_comm y, Nat.gcd_rec (x % y) y, Nat.gcd_comm]
          rw [g1, g2]
          refine ih (x % y) (y % (x % y)) r (some b) (half_mod hy (by omega) (by omega)) ?_
          simp only [List.length_cons] at hl
          omega
def comB : GS := xSeq (xPar2 4 5 (xConsA (xVar 1) (xConsA (xBlt bAbs (xConsA (xVar 2) (xNilA))) (xNilA))))
  (xSeq (xFor (yRng1 (xOp fAdd (xOp fMul (xC (.int 2)) (xUn fBits (xBlt bAbs (xConsA (xVar 2) (xNilA))))) (xC (.int 2)))) (xName 3) eucB)
  (xAsg (xVar 4) (xName 1)))
theorem nums_len (lo : Int) (n : Nat) : (nums lo n).length = n := by
  unfold nums
  simp
theorem comB_eq {n : Nat} (a0 s3 s4 s5 : Option A) (f : Nat) (i : Int) (hi : IS n i) (hn : n ≤ 400000) (w : W) : ∃ z, comB [a0, some (.int f), some (.int i), s3, s4, s5] w = some (.nx [a0, some (.int (Nat.gcd f i.natAbs : Nat)), some (.int i), z, some (.int (Nat.gcd f i.natAbs : Nat)), some (.int 0)] w) := by
  have habs : (if i < 0 then -i else i) = (i.natAbs : Int) := by
    split <;> omega
  have hb : ∃ b : Nat, (if (i.natAbs : Int) = 0 then 0 else (i.natAbs : Int).natAbs.log2 + 1) = b ∧ i.natAbs < 2 ^ b ∧ b ≤ n + 1 := by
    by_cases h : i.natAbs = 0
    · refine ⟨0, ?_, ?_, by omega⟩
      · simp [h]
      · simp [h]
    · refine ⟨i.natAbs.log2 + 1, ?_, Nat.lt_log2_self, ?_⟩
      · rw [if_neg (by omega)]
        simp
      · have := log2_le hi
        omega
  obtain ⟨b, h1, h2, h3⟩ := hb
  have hm : mulOk 2 (b : Int) = true := mulOk_of (m := 2) (n := b) (show (2 : Int).natAbs < 2 ^ 2 by decide) (by show (b : Int).natAbs < _; rw [Int.natAbs_natCast]; exact Nat.lt_two_pow_self) (by omega)
  have hr : rngOk (2 * (b : Int) + 2) = true := sure_iff.mpr (by omega)
  have h4 : (2 * (b : Int) + 2).toNat = 2 * b + 2 := by omega
  obtain ⟨z, hz⟩ := euc_walk a0 (some (.int f)) (some (.int i)) w b f i.natAbs (nums 0 (2 * b + 2)) s3 h2 (by rw [nums_len]; omega)
  refine ⟨z, ?_⟩
  simp only [Int.natAbs_natCast] at h1
  have h1' : (if i = 0 then 0 else i.natAbs.log2 + 1) = b := by
    rw [← h1]
    simp
  simp [comB, habs, fBits, yRng1, h1', hm, hr, h4, hz]
theorem com_walk {n : Nat} (hn : n ≤ 400000) (a0 : Option A) (w : W) : ∀ (l : List Int) (f : Nat) (s2 s3 s4 s5 : Option A), (∀ i ∈ l, IS n i) → ∃ z2 z3 z4 z5, forLoop (xName 2) comB (l.map A.int) [a0, some (.int f), s2, s3, s4, s5] w = some (.nx [a0, some (.int (l.foldl (fun f i => Nat.gcd f i.natAbs) f : Nat)), z2, z3, z4, z5] w) := by
  intro l
  induction l with
  | nil => exact fun f s2 s3 s4 s5 _ => ⟨s2, s3, s4, s5, by simp⟩
  | cons i l ih =>
    intro f s2 s3 s4 s5 h
    obtain ⟨z, hz⟩ := comB_eq a0 s3 s4 s5 f i (h i (List.mem_cons_self)) hn w
    obtain ⟨z2, z3, z4, z5, h2⟩ := ih (Nat.gcd f i.natAbs) (some (.int i)) z (some (.int (Nat.gcd f i.natAbs : Nat))) (some (.int 0)) (fun j hj => h j (List.mem_cons_of_mem _ hj))
    refine ⟨z2, z3, z4, z5, ?_⟩
    rw [List.map_cons]
    unfold forLoop
    simp [hz]
    exact h2
theorem G__law_common_eq {n : Nat} (l : List Int) (w : W) (h : ∀ i ∈ l, IS n i) (hn : n ≤ 400000) : G__law_common [.tup (l.map A.int)] w = some (.int (l.foldl (fun f i => Nat.gcd f i.natAbs) 0 : Nat), w) := by
  obtain ⟨z2, z3, z4, z5, hz⟩ := com_walk hn (some (.tup (l.map A.int))) w l 0 none none none none h
  have e : xFor (yTup (xVar 0)) (xName 2) comB [some (.tup (l.map A.int)), some (.int 0), none, none, none, none] w = some (.nx [some (.tup (l.map A.int)), some (.int (l.foldl (fun f i => Nat.gcd f i.natAbs) 0 : Nat)), z2, z3, z4, z5] w) := by
    simp [-forLoop]
    exact hz
  unfold G__law_common
  refine (xDef_eq (n := 1) (as := [_]) rfl).trans ?_
  show xDef.xRun (xSeq (xAsg (xC (.int 0)) (xName 1)) (xSeq (xFor (yTup (xVar 0)) (xName 2) comB) (xRet (xVar 1))) _ w) = _
  simp [-xFor, e]
theorem lean_map {by_ : Int} (h0 : 0 < by_) (hs : by_.natAbs.log2 < 9000) (a0 : Option A) (w : W) : ∀ l : List Int, lcLoop (xName 2) xYes (xOp fDivN (xVar 2) (xVar 1)) [a0, some (.int by_), none] (l.map A.int) w = some (l.map fun i => A.int (i / by_), w)
  | [] => by simp
  | i :: l => by
    have := lean_map h0 hs a0 w l
    have h1 : ¬ by_ = 0 := by omega
    rw [List.map_cons, lcLoop]
    simp [-lcLoop, h1, hs, fdiv_pos h0, this]
theorem gcds {l : List Int} : ∀ {f : Nat}, l.foldl (fun f i => Nat.gcd f i.natAbs) f = Nat.gcd f (l.foldl (fun f i => Nat.gcd f i.natAbs) 0) := by
  induction l with
  | nil => intro f; simp
  | cons i l ih =>
    intro f
    rw [List.foldl_cons, List.foldl_cons, ih, ih (f := Nat.gcd 0 i.natAbs), Nat.gcd_zero_left, Nat.gcd_assoc]
def gcdAll (l : List Int) : Nat := l.foldl (fun f i => Nat.gcd f i.natAbs) 0
theorem G__law_lean_eq {n : Nat} (l : List Int) (w : W) (h : ∀ i ∈ l, IS n i) (hn : n ≤ 400000) (hl : l.length ≤ 100) (hp : 0 < gcdAll l) (hs : (gcdAll l).log2 < 9000) : G__law_lean [.tup (l.map A.int)] w = some (.tup (l.map fun i => A.int (i / (gcdAll l : Nat))), w) := by
  have e := G__law_common_eq l w h hn
  have h1 : bMax [.int 1, .int (gcdAll l : Nat)] = some (.int (gcdAll l : Nat)) := by
    show some (A.int (if ((gcdAll l : Nat) : Int) > 1 then ((gcdAll l : Nat) : Int) else 1)) = _
    have : (if ((gcdAll l : Nat) : Int) > 1 then ((gcdAll l : Nat) : Int) else 1) = (gcdAll l : Nat) := by
      split <;> omega
    rw [this]
  have e2 := lean_map (by_ := (gcdAll l : Nat)) (by omega) (by simpa using hs) (some (.tup (l.map A.int))) w l
  have e3 : l.length ≤ 10000 := by omega
  have e4 : G__law_common [.tup (l.map A.int)] w = some (.int (gcdAll l : Nat), w) := e
  simp [G__law_lean, B__law_lean, e4, -bMax, h1, -lcLoop, e2, e3]
theorem gcdAll2 (a b : Int) : gcdAll [a, b] = Int.gcd a b := by
  simp [gcdAll, Int.gcd]
theorem law_lean2 {n : Nat} {a b : Int} {w : W} (ha : IS n a) (hb : IS n b) (h0 : 0 < b) (hn : n ≤ 9000) : G__law_lean [.tup [.int a, .int b]] w = some (enc (Rat.divInt a b), w) := by
  have hg := gcd_pos (a := a) (b := b) (by omega)
  have hd := div_ok (gcd_is (a := a) hb (by omega)) (by omega) hn
  simp only [Int.natAbs_natCast] at hd
  have e := G__law_lean_eq (n := n) [a, b] w (by simp [ha, hb]) (by omega) (by simp) (by rw [gcdAll2]; omega) (by rw [gcdAll2]; exact hd)
  rw [gcdAll2] at e
  refine e.trans ?_
  rw [enc_divInt (by omega), Int.sign_eq_one_of_pos h0, Int.one_mul]
  have h3 : (b.natAbs : Int) = b := by omega
  rw [h3]
  rfl
theorem G__law_ratio_eq {n : Nat} {a b : Int} {w : W} (ha : IS n a) (hb : IS n b) (h0 : b ≠ 0) (hn : n ≤ 9000) : G__law_ratio [.int a, .int b] w = some (enc (Rat.divInt a b), w) := by
  rcases Int.lt_trichotomy b 0 with h1 | h1 | h1
  · have e := law_lean2 (w := w) ha.neg hb.neg (by omega) hn
    have h2 : Rat.divInt (-a) (-b) = Rat.divInt a b := by
      rw [Rat.divInt_neg', Int.neg_neg]
    rw [h2] at e
    have h3 : ¬ 0 < b := by omega
    simp [G__law_ratio, B__law_ratio, h3, e]
  · exact absurd h1 h0
  · simp [G__law_ratio, B__law_ratio, h1, law_lean2 ha hb h1 hn]
theorem G__law_plus_eq {m n : Nat} {a b : Rat} {w : W} (h : Sz m a) (g : Sz n b) (hs : m + n + 1 ≤ 9000 := by omega) : G__law_plus [enc a, enc b] w = some (enc (a + b), w) := by
  have g1 := g.num.mul h.dn
  rw [Nat.add_comm] at g1
  have e := G__law_ratio_eq (w := w) ((h.num.mul g.dn).add g1) ((h.dn.mul g.dn).mono (by omega)) (dn00 a b) hs
  rw [rat_add]
  simp [G__law_plus, B__law_plus, enc, mulOk_of h.num g.dn (by omega), mulOk_of g.num h.dn (by omega), mulOk_of h.dn g.dn (by omega), e]
theorem G__law_less_eq {m n : Nat} {a b : Rat} {w : W} (h : Sz m a) (g : Sz n b) (hs : m + n + 1 ≤ 9000 := by omega) : G__law_less [enc a, enc b] w = some (enc (a - b), w) := by
  have g1 := g.num.mul h.dn
  rw [Nat.add_comm] at g1
  have e := G__law_ratio_eq (w := w) ((h.num.mul g.dn).sub g1) ((h.dn.mul g.dn).mono (by omega)) (dn00 a b) hs
  rw [rat_sub]
  simp [G__law_less, B__law_less, enc, mulOk_of h.num g.dn (by omega), mulOk_of g.num h.dn (by omega), mulOk_of h.dn g.dn (by omega), e]
theorem G__law_times_eq {m n : Nat} {a b : Rat} {w : W} (h : Sz m a) (g : Sz n b) (hs : m + n ≤ 9000 := by omega) : G__law_times [enc a, enc b] w = some (enc (a * b), w) := by
  have e := G__law_ratio_eq (w := w) (h.num.mul g.num) (h.dn.mul g.dn) (dn00 a b) hs
  rw [rat_mul]
  simp [G__law_times, B__law_times, enc, mulOk_of h.num g.num (by omega), mulOk_of h.dn g.dn (by omega), e]
theorem G__law_over_eq {m n : Nat} {a b : Rat} {w : W} (h : Sz m a) (g : Sz n b) (hb : b ≠ 0) (hs : m + n ≤ 9000 := by omega) : G__law_over [enc a, enc b] w = some (enc (a / b), w) := by
  have e := G__law_ratio_eq (w := w) (h.num.mul g.dn) (h.dn.mul g.num) (Int.mul_ne_zero (dn0 a) (num0 hb)) hs
  rw [rat_div]
  simp [G__law_over, B__law_over, enc, mulOk_of h.num g.dn (by omega), mulOk_of h.dn g.num (by omega), e]
theorem G__law_sign_eq (a : Int) (w : W) : G__law_sign [.int a] w = some (.int a.sign, w) := by
  simp [G__law_sign, B__law_sign]
  rcases Int.lt_trichotomy a 0 with h | h | h
  · have : ¬ 0 < a := by omega
    simp [h, this, Int.sign_eq_neg_one_of_neg h]
  · subst h; simp
  · have : ¬ a < 0 := by omega
    simp [h, this, Int.sign_eq_one_of_pos h]
end
end Sp
/-! RE 1: reals, as Cauchy sequences of fractions. Core Lean only. -/
namespace Sp
/-- in the end within e -/
def Near (f g : Nat → Rat) : Prop := ∀ e : Rat, 0 < e → ∃ N : Nat, ∀ n, N ≤ n → f n - g n < e ∧ g n - f n < e
structure CS where
  f : Nat → Rat
  c : ∀ e : Rat, 0 < e → ∃ N : Nat, ∀ m n, N ≤ m → N ≤ n → f m - f n < e
theorem Near.refl (f : Nat → Rat) : Near f f := fun e he => ⟨0, fun n _ => by constructor <;> grind⟩
theorem Near.symm {f g : Nat → Rat} (h : Near f g) : Near g f := fun e he => by
  obtain ⟨N, hN⟩ := h e he
  exact ⟨N, fun n hn => ⟨(hN n hn).2, (hN n hn).1⟩⟩
theorem half_pos {e : Rat} (he : 0 < e) : 0 < e / 2 := by grind
theorem Near.trans {f g h : Nat → Rat} (a : Near f g) (b : Near g h) : Near f h := fun e he => by
  obtain ⟨M, hM⟩ := a (e / 2) (half_pos he)
  obtain ⟨N, hN⟩ := b (e / 2) (half_pos he)
  refine ⟨max M N, fun n hn => ?_⟩
  have h1 := hM n (by omega)
  have h2 := hN n (by omega)
  constructor <;> grind
instance csSetoid : Setoid CS := ⟨fun a b => Near a.f b.f, ⟨fun a => Near.refl _, Near.symm, Near.trans⟩⟩
def R : Type := Quotient csSetoid
theorem absmul {x y B d : Rat} (h1 : -B < x) (h2 : x < B) (h3 : -d < y) (h4 : y < d) : x * y < B * d ∧ -(B * d) < x * y := by
  have a := Rat.mul_pos (show 0 < B - x by grind) (show 0 < d + y by grind)
  have b := Rat.mul_pos (show 0 < B + x by grind) (show 0 < d - y by grind)
  have c := Rat.mul_pos (show 0 < B - x by grind) (show 0 < d - y by grind)
  have e := Rat.mul_pos (show 0 < B + x by grind) (show 0 < d + y by grind)
  constructor <;> grind
/-- bounded in the end -/
theorem CS.bd (a : CS) : ∃ (B : Rat) (N : Nat), 1 < B ∧ ∀ n, N ≤ n → -B < a.f n ∧ a.f n < B := by
  obtain ⟨N, hN⟩ := a.c 1 (by decide)
  by_cases h : 0 ≤ a.f N
  · refine ⟨a.f N + 2, N, by grind, fun n hn => ?_⟩
    have h1 := hN n N hn (Nat.le_refl _)
    have h2 := hN N n (Nat.le_refl _) hn
    constructor <;> grind
  · refine ⟨2 - a.f N, N, by grind, fun n hn => ?_⟩
    have h1 := hN n N hn (Nat.le_refl _)
    have h2 := hN N n (Nat.le_refl _) hn
    constructor <;> grind
def CS.add (a b : CS) : CS := ⟨fun n => a.f n + b.f n, fun e he => by
  obtain ⟨M, hM⟩ := a.c (e / 2) (half_pos he)
  obtain ⟨N, hN⟩ := b.c (e / 2) (half_pos he)
  refine ⟨max M N, fun m n hm hn => ?_⟩
  have h1 := hM m n (by omega) (by omega)
  have h2 := hN m n (by omega) (by omega)
  grind⟩
def CS.neg (a : CS) : CS := ⟨fun n => -a.f n, fun e he => by
  obtain ⟨M, hM⟩ := a.c e he
  refine ⟨M, fun m n hm hn => ?_⟩
  have h1 := hM n m hn hm
  grind⟩
theorem div_small {e B : Rat} (he : 0 < e) (hB : 1 < B) : 0 < e / (4 * B) ∧ B * (e / (4 * B)) = e / 4 := by
  have h0 : B ≠ 0 := by grind
  constructor
  · rw [Rat.div_def]
    refine Rat.mul_pos he (Rat.inv_pos.mpr ?_)
    grind
  · grind
theorem mul_close {a b x y B d : Rat} (h1 : -B < a ∧ a < B) (h2 : -B < y ∧ y < B) (h3 : a - x < d ∧ x - a < d) (h4 : b - y < d ∧ y - b < d) : a * b - x * y < 2 * (B * d) ∧ x * y - a * b < 2 * (B * d) := by
  have p := absmul (x := a) (y := b - y) (B := B) (d := d) h1.1 h1.2 (by grind) (by grind)
  have q := absmul (x := y) (y := a - x) (B := B) (d := d) h2.1 h2.2 (by grind) (by grind)
  constructor <;> grind
theorem two_bd (a b : CS) : ∃ (B : Rat) (N : Nat), 1 < B ∧ ∀ n, N ≤ n → (-B < a.f n ∧ a.f n < B) ∧ (-B < b.f n ∧ b.f n < B) := by
  obtain ⟨B1, N1, p1, h1⟩ := a.bd
  obtain ⟨B2, N2, p2, h2⟩ := b.bd
  refine ⟨B1 + B2, max N1 N2, by grind, fun n hn => ?_⟩
  have g1 := h1 n (by omega)
  have g2 := h2 n (by omega)
  refine ⟨⟨?_, ?_⟩, ⟨?_, ?_⟩⟩ <;> grind
def CS.mul (a b : CS) : CS := ⟨fun n => a.f n * b.f n, fun e he => by
  obtain ⟨B, N, p, h⟩ := two_bd a b
  obtain ⟨d0, d1⟩ := div_small he p
  obtain ⟨N1, h1⟩ := a.c (e / (4 * B)) d0
  obtain ⟨N2, h2⟩ := b.c (e / (4 * B)) d0
  refine ⟨max N (max N1 N2), fun m n hm hn => ?_⟩
  have q := mul_close (h m (by omega)).1 (h n (by omega)).2 ⟨h1 m n (by omega) (by omega), h1 n m (by omega) (by omega)⟩ ⟨h2 m n (by omega) (by omega), h2 n m (by omega) (by omega)⟩
  rw [d1] at q
  grind⟩
def CS.con (r : Rat) : CS := ⟨fun _ => r, fun e he => ⟨0, fun _ _ _ _ => by grind⟩⟩
theorem add_sound {a b c d : CS} (h1 : Near a.f c.f) (h2 : Near b.f d.f) : Near (a.add b).f (c.add d).f := fun e he => by
  obtain ⟨M, hM⟩ := h1 (e / 2) (half_pos he)
  obtain ⟨N, hN⟩ := h2 (e / 2) (half_pos he)
  refine ⟨max M N, fun n hn => ?_⟩
  have g1 := hM n (by omega)
  have g2 := hN n (by omega)
  show a.f n + b.f n - (c.f n + d.f n) < e ∧ c.f n + d.f n - (a.f n + b.f n) < e
  constructor <;> grind
theorem neg_sound {a c : CS} (h1 : Near a.f c.f) : Near a.neg.f c.neg.f := fun e he => by
  obtain ⟨M, hM⟩ := h1 e he
  refine ⟨M, fun n hn => ?_⟩
  have g1 := hM n (by omega)
  show -a.f n - -c.f n < e ∧ -c.f n - -a.f n < e
  constructor <;> grind
theorem mul_sound {a b c d : CS} (h1 : Near a.f c.f) (h2 : Near b.f d.f) : Near (a.mul b).f (c.mul d).f := fun e he => by
  obtain ⟨B, N, p, h⟩ := two_bd a d
  obtain ⟨d0, d1⟩ := div_small he p
  obtain ⟨N1, k1⟩ := h1 (e / (4 * B)) d0
  obtain ⟨N2, k2⟩ := h2 (e / (4 * B)) d0
  refine ⟨max N (max N1 N2), fun n hn => ?_⟩
  have q := mul_close (h n (by omega)).1 (h n (by omega)).2 (k1 n (by omega)) (k2 n (by omega))
  rw [d1] at q
  show a.f n * b.f n - c.f n * d.f n < e ∧ c.f n * d.f n - a.f n * b.f n < e
  constructor <;> grind
noncomputable section
def R.mk (a : CS) : R := Quotient.mk csSetoid a
def io (r : Rat) : R := R.mk (CS.con r)
instance : Add R := ⟨Quotient.lift₂ (fun a b => R.mk (a.add b)) fun a b c d h1 h2 => Quotient.sound (add_sound h1 h2)⟩
instance : Mul R := ⟨Quotient.lift₂ (fun a b => R.mk (a.mul b)) fun a b c d h1 h2 => Quotient.sound (mul_sound h1 h2)⟩
instance : Neg R := ⟨Quotient.lift (fun a => R.mk a.neg) fun a b h1 => Quotient.sound (neg_sound h1)⟩
instance : Sub R := ⟨fun a b => a + -b⟩
instance : NatCast R := ⟨fun n => io n⟩
instance : IntCast R := ⟨fun n => io n⟩
instance (n : Nat) : OfNat R n := ⟨io n⟩
instance : SMul Nat R := ⟨fun n a => (n : R) * a⟩
instance : SMul Int R := ⟨fun n a => (n : R) * a⟩
def rpow (a : R) : Nat → R
  | 0 => 1
  | n + 1 => rpow a n * a
instance : HPow R Nat R := ⟨rpow⟩
theorem mk_add (a b : CS) : R.mk a + R.mk b = R.mk (a.add b) := rfl
theorem mk_mul (a b : CS) : R.mk a * R.mk b = R.mk (a.mul b) := rfl
theorem mk_neg (a : CS) : -R.mk a = R.mk a.neg := rfl
theorem cs_ext {a b : CS} (h : ∀ n, a.f n = b.f n) : a = b := by
  obtain ⟨f, c⟩ := a
  obtain ⟨g, d⟩ := b
  have : f = g := funext h
  subst this
  rfl
theorem mk_ext {a b : CS} (h : ∀ n, a.f n = b.f n) : R.mk a = R.mk b := by rw [cs_ext h]
theorem R.ind {p : R → Prop} (h : ∀ a, p (R.mk a)) (x : R) : p x := Quotient.ind h x
theorem io_add (a b : Rat) : io (a + b) = io a + io b := rfl
theorem io_mul (a b : Rat) : io (a * b) = io a * io b := rfl
theorem io_neg (a : Rat) : io (-a) = -io a := rfl
theorem io_sub (a b : Rat) : io (a - b) = io a - io b := by
  rw [Rat.sub_eq_add_neg]
  rfl
theorem R.ofNat_eq (n : Nat) : (OfNat.ofNat n : R) = io n := rfl
theorem R.add_comm (a b : R) : a + b = b + a := by
  induction a using R.ind with | h a =>
  induction b using R.ind with | h b =>
  exact mk_ext fun n => Rat.add_comm _ _
theorem R.add_assoc (a b c : R) : a + b + c = a + (b + c) := by
  induction a using R.ind with | h a =>
  induction b using R.ind with | h b =>
  induction c using R.ind with | h c =>
  exact mk_ext fun n => Rat.add_assoc _ _ _
theorem R.add_zero (a : R) : a + 0 = a := by
  induction a using R.ind with | h a =>
  exact mk_ext fun n => Rat.add_zero _
theorem R.neg_add (a : R) : -a + a = 0 := by
  induction a using R.ind with | h a =>
  exact mk_ext fun n => Rat.neg_add_cancel _
theorem R.mul_comm (a b : R) : a * b = b * a := by
  induction a using R.ind with | h a =>
  induction b using R.ind with | h b =>
  exact mk_ext fun n => Rat.mul_comm _ _
theorem R.mul_assoc (a b c : R) : a * b * c = a * (b * c) := by
  induction a using R.ind with | h a =>
  induction b using R.ind with | h b =>
  induction c using R.ind with | h c =>
  exact mk_ext fun n => Rat.mul_assoc _ _ _
theorem R.mul_one (a : R) : a * 1 = a := by
  induction a using R.ind with | h a =>
  exact mk_ext fun n => Rat.mul_one _
theorem R.mul_add (a b c : R) : a * (b + c) = a * b + a * c := by
  induction a using R.ind with | h a =>
  induction b using R.ind with | h b =>
  induction c using R.ind with | h c =>
  exact mk_ext fun n => Rat.mul_add _ _ _
theorem R.zero_mul (a : R) : 0 * a = 0 := by
  induction a using R.ind with | h a =>
  exact mk_ext fun n => Rat.zero_mul _
theorem io_nat_succ (n : Nat) : io ((n + 1 : Nat) : Rat) = io (n : Rat) + 1 := by
  rw [show ((n + 1 : Nat) : Rat) = (n : Rat) + 1 from by simp]
  rfl
instance : Lean.Grind.Semiring R where
  add_zero := R.add_zero
  add_comm := R.add_comm
  add_assoc := R.add_assoc
  mul_assoc := R.mul_assoc
  mul_one := R.mul_one
  one_mul a := by rw [R.mul_comm, R.mul_one]
  left_distrib := R.mul_add
  right_distrib a b c := by rw [R.mul_comm, R.mul_add, R.mul_comm c, R.mul_comm c]
  zero_mul := R.zero_mul
  mul_zero a := by rw [R.mul_comm, R.zero_mul]
  pow_zero a := rfl
  pow_succ a n := rfl
  ofNat_succ n := io_nat_succ n
instance : Lean.Grind.Ring R where
  neg_add_cancel := R.neg_add
  sub_eq_add_neg a b := rfl
  neg_zsmul i a := by
    show io ((-i : Int) : Rat) * a = -(io (i : Rat) * a)
    rw [show ((-i : Int) : Rat) = -(i : Rat) from by simp]
    induction a using R.ind with | h a =>
    exact mk_ext fun n => by show -(i : Rat) * a.f n = -((i : Rat) * a.f n); grind
  zsmul_natCast_eq_nsmul n a := rfl
  intCast_ofNat n := rfl
  intCast_neg i := by
    show io ((-i : Int) : Rat) = -io (i : Rat)
    rw [show ((-i : Int) : Rat) = -(i : Rat) from by simp]
    rfl
instance : Lean.Grind.CommRing R where
  mul_comm := R.mul_comm
end
end Sp
/-! RE 2: the order of the reals, roots. -/
namespace Sp
noncomputable section
def CS.pos (a : CS) : Prop := ∃ e : Rat, 0 < e ∧ ∃ N : Nat, ∀ n, N ≤ n → e < a.f n
theorem pos_sound {a b : CS} (h : Near a.f b.f) (p : a.pos) : b.pos := by
  obtain ⟨e, he, N, hN⟩ := p
  obtain ⟨M, hM⟩ := h (e / 2) (half_pos he)
  refine ⟨e / 2, half_pos he, max M N, fun n hn => ?_⟩
  have h1 := hN n (by omega)
  have h2 := hM n (by omega)
  grind
def Pos (x : R) : Prop := Quotient.lift CS.pos (fun a b h => propext ⟨pos_sound h, pos_sound (Near.symm h)⟩) x
theorem pos_mk (a : CS) : Pos (R.mk a) ↔ a.pos := Iff.rfl
theorem Pos.add {x y : R} (h : Pos x) (g : Pos y) : Pos (x + y) := by
  induction x using R.ind with | h a =>
  induction y using R.ind with | h b =>
  obtain ⟨e, he, N, hN⟩ := h
  obtain ⟨d, hd, M, hM⟩ := g
  refine ⟨e + d, by grind, max M N, fun n hn => ?_⟩
  have h1 := hN n (by omega)
  have h2 := hM n (by omega)
  show e + d < a.f n + b.f n
  grind
theorem Pos.mul {x y : R} (h : Pos x) (g : Pos y) : Pos (x * y) := by
  induction x using R.ind with | h a =>
  induction y using R.ind with | h b =>
  obtain ⟨e, he, N, hN⟩ := h
  obtain ⟨d, hd, M, hM⟩ := g
  refine ⟨e * d, Rat.mul_pos he hd, max M N, fun n hn => ?_⟩
  have h1 := hN n (by omega)
  have h2 := hM n (by omega)
  show e * d < a.f n * b.f n
  have h3 := Rat.mul_pos (show 0 < a.f n - e by grind) (show 0 < b.f n by grind)
  have h4 := Rat.mul_pos he (show 0 < b.f n - d by grind)
  grind
theorem Pos.not {x : R} (h : Pos x) (g : Pos (-x)) : False := by
  induction x using R.ind with | h a =>
  obtain ⟨e, he, N, hN⟩ := h
  obtain ⟨d, hd, M, hM⟩ := g
  have h1 := hN (max M N) (by omega)
  have h2 : d < -a.f (max M N) := hM (max M N) (by omega)
  grind
theorem Pos.tri (x : R) : Pos x ∨ x = 0 ∨ Pos (-x) := by
  induction x using R.ind with | h a =>
  by_cases h1 : a.pos
  · exact .inl h1
  · by_cases h2 : a.neg.pos
    · exact .inr (.inr h2)
    · refine .inr (.inl (Quotient.sound fun e he => ?_))
      obtain ⟨N, hN⟩ := a.c (e / 2) (half_pos he)
      refine ⟨N, fun n hn => ?_⟩
      show a.f n - 0 < e ∧ 0 - a.f n < e
      refine ⟨?_, ?_⟩
      · refine Rat.not_le.mp fun z => h1 ⟨e / 4, by grind, N, fun m hm => ?_⟩
        have := hN n m hn hm
        grind
      · refine Rat.not_le.mp fun z => h2 ⟨e / 4, by grind, N, fun m hm => ?_⟩
        have := hN m n hm hn
        show e / 4 < -a.f m
        grind
instance : _root_.LE R := ⟨fun a b => ¬ Pos (a - b)⟩
instance : _root_.LT R := ⟨fun a b => Pos (b - a)⟩
theorem R.le_def (a b : R) : a ≤ b ↔ ¬ Pos (a - b) := Iff.rfl
theorem R.lt_def (a b : R) : a < b ↔ Pos (b - a) := Iff.rfl
theorem R.not_lt {a b : R} : ¬ a < b ↔ b ≤ a := Iff.rfl
theorem R.not_le {a b : R} : ¬ a ≤ b ↔ b < a := Classical.not_not
theorem pos0 : ¬ Pos 0 := fun h => h.not (by
  have : (-0 : R) = 0 := by grind
  rw [this]
  exact h)
instance : Std.IsLinearOrder R where
  le_refl a := by
    rw [R.le_def]
    have : a - a = 0 := by grind
    rw [this]
    exact pos0
  le_trans a b c h g := by
    rw [R.le_def] at *
    intro z
    rcases Pos.tri (a - b) with h1 | h1 | h1
    · exact h h1
    · have : b - c = a - c := by grind
      rw [this] at g
      exact g z
    · have h2 := Pos.add h1 z
      have : -(a - b) + (a - c) = b - c := by grind
      rw [this] at h2
      exact g h2
  le_antisymm a b h g := by
    rw [R.le_def] at *
    rcases Pos.tri (a - b) with h1 | h1 | h1
    · exact absurd h1 h
    · grind
    · have : -(a - b) = b - a := by grind
      rw [this] at h1
      exact absurd h1 g
  le_total a b := by
    rw [R.le_def, R.le_def]
    by_cases h : Pos (a - b)
    · right
      intro g
      refine h.not ?_
      have : -(a - b) = b - a := by grind
      rw [this]
      exact g
    · exact .inl h
instance : Std.LawfulOrderLT R where
  lt_iff a b := by
    rw [R.le_def, R.le_def, R.lt_def]
    constructor
    · intro h
      refine ⟨fun g => h.not ?_, fun g => g h⟩
      have : -(b - a) = a - b := by grind
      rw [this]
      exact g
    · exact fun h => Classical.not_not.mp h.2
instance : Lean.Grind.OrderedRing R where
  add_le_left_iff {a b} c := by
    rw [R.le_def, R.le_def]
    have : a + c - (b + c) = a - b := by grind
    rw [this]
  zero_lt_one := ⟨1 / 2, by grind, 0, fun n _ => by show (1 / 2 : Rat) < ((1 : Nat) : Rat) + -((0 : Nat) : Rat); grind⟩
  mul_lt_mul_of_pos_left {a b c} h g := by
    rw [R.lt_def] at *
    have h2 := Pos.mul g h
    have : (c - 0) * (b - a) = c * b - c * a := by grind
    rw [this] at h2
    exact h2
  mul_lt_mul_of_pos_right {a b c} h g := by
    rw [R.lt_def] at *
    have h2 := Pos.mul h g
    have : (b - a) * (c - 0) = b * c - a * c := by grind
    rw [this] at h2
    exact h2
example (a b c : R) (h : a < b) (g : b ≤ c) : a + 1 < c + 1 := by grind
theorem R.mul_pos {a b : R} (h : 0 < a) (g : 0 < b) : 0 < a * b := by
  have h2 := Lean.Grind.OrderedRing.mul_lt_mul_of_pos_left (R := R) h g
  grind
theorem R.mul_nonneg {a b : R} (h : 0 ≤ a) (g : 0 ≤ b) : 0 ≤ a * b := by
  by_cases h0 : a = 0
  · subst h0
    grind
  · by_cases g0 : b = 0
    · subst g0
      grind
    · have := R.mul_pos (a := a) (b := b) (by grind) (by grind)
      grind
theorem R.sq_nonneg (a : R) : 0 ≤ a * a := by
  by_cases h : 0 ≤ a
  · exact R.mul_nonneg h h
  · have := R.mul_nonneg (a := -a) (b := -a) (by grind) (by grind)
    grind
theorem R.mul_eq_zero {a b : R} (h : a * b = 0) : a = 0 ∨ b = 0 := by
  by_cases h0 : a = 0
  · exact .inl h0
  · refine .inr ?_
    by_cases g0 : b = 0
    · exact g0
    · have k : a * a * (b * b) = 0 := by grind
      have s1 : 0 < a * a := by
        rcases Std.le_total (a := a) (b := 0) with z | z
        · have := R.mul_pos (a := -a) (b := -a) (by grind) (by grind)
          grind
        · exact R.mul_pos (by grind) (by grind)
      have s2 : 0 < b * b := by
        rcases Std.le_total (a := b) (b := 0) with z | z
        · have := R.mul_pos (a := -b) (b := -b) (by grind) (by grind)
          grind
        · exact R.mul_pos (by grind) (by grind)
      have := R.mul_pos s1 s2
      grind
theorem io_pos {r : Rat} (h : 0 < r) : 0 < io r := ⟨r / 2, by grind, 0, fun n _ => by show r / 2 < r + -((0 : Nat) : Rat); grind⟩
theorem io_lt {a b : Rat} : io a < io b ↔ a < b := by
  have key : ∀ {a b : Rat}, a < b → io a < io b := fun {a b} h => by
    have h1 := io_pos (r := b - a) (by grind)
    rw [io_sub] at h1
    grind
  constructor
  · intro h
    rcases Rat.le_total (a := a) (b := b) with z | z
    · by_cases e : a = b
      · subst e
        grind
      · grind
    · by_cases e : a = b
      · subst e
        grind
      · have := key (a := b) (b := a) (by grind)
        grind
  · exact key
theorem io_le {a b : Rat} : io a ≤ io b ↔ a ≤ b := by
  rw [← R.not_lt, io_lt, Rat.not_lt]
theorem io_inj {a b : Rat} : io a = io b ↔ a = b := by
  constructor
  · intro h
    have h1 : io a ≤ io b := by grind
    have h2 : io b ≤ io a := by grind
    exact Rat.le_antisymm (io_le.mp h1) (io_le.mp h2)
  · rintro rfl
    rfl
theorem io_zero : io 0 = 0 := rfl
theorem io_one : io 1 = 1 := rfl
theorem io_ofNat (n : Nat) : io (OfNat.ofNat n) = OfNat.ofNat n := rfl
/-! ### roots -/
def hp (n : Nat) : Rat := ((2 ^ n : Nat) : Rat)⁻¹
theorem p2pos (n : Nat) : (0 : Rat) < ((2 ^ n : Nat) : Rat) := Rat.natCast_pos.mpr (Nat.two_pow_pos n)
theorem hp_pos (n : Nat) : 0 < hp n := Rat.inv_pos.mpr (p2pos n)
theorem hp_mul (n : Nat) : ((2 ^ n : Nat) : Rat) * hp n = 1 := Rat.mul_inv_cancel _ (by have := p2pos n; grind)
theorem hp_le {m n : Nat} (h : m ≤ n) : hp n ≤ hp m := by
  have h1 : ((2 ^ m : Nat) : Rat) ≤ ((2 ^ n : Nat) : Rat) := Rat.natCast_le_natCast.mpr (Nat.pow_le_pow_right (by decide) h)
  have h2 := Rat.mul_le_mul_of_nonneg_right h1 (c := hp n * hp m) (Rat.mul_nonneg (Rat.le_of_lt (hp_pos n)) (Rat.le_of_lt (hp_pos m)))
  have h3 := hp_mul m
  have h4 := hp_mul n
  generalize ((2 ^ m : Nat) : Rat) = x at *
  generalize ((2 ^ n : Nat) : Rat) = y at *
  have e1 : x * (hp n * hp m) = hp n := by grind
  have e2 : y * (hp n * hp m) = hp m := by grind
  rw [e1, e2] at h2
  exact h2
theorem hp_small (e : Rat) (he : 0 < e) : ∃ N, hp N < e := by
  refine ⟨e.den, ?_⟩
  have h1 : ((e.den : Nat) : Rat) < ((2 ^ e.den : Nat) : Rat) := Rat.natCast_lt_natCast.mpr Nat.lt_two_pow_self
  have h2 : (1 : Rat) ≤ e * (e.den : Rat) := by
    have h3 : e * (e.den : Rat) = (e.num : Rat) := by
      have h4 : e = (e.num : Rat) / (e.den : Rat) := by
        rw [← Rat.intCast_natCast, ← Rat.divInt_eq_div, Rat.num_divInt_den]
      have h5 : (e.den : Rat) ≠ 0 := by
        have : (0 : Rat) < (e.den : Rat) := Rat.natCast_pos.mpr e.den_pos
        grind
      have key : ∀ x a d : Rat, d ≠ 0 → x = a / d → x * d = a := fun x a d => by grind
      exact key _ _ _ h5 h4
    rw [h3]
    have h6 : 0 < e.num := Rat.lt_iff 0 e |>.mp he |> fun z => by simpa using z
    have h7 : ((1 : Int) : Rat) ≤ (e.num : Rat) := Rat.intCast_le_intCast.mpr h6
    simpa using h7
  have h3 := hp_mul e.den
  have h4 := hp_pos e.den
  have h5 := Rat.mul_lt_mul_of_pos_left h1 he
  have h6 : 1 < e * ((2 ^ e.den : Nat) : Rat) := by grind
  have h7 := Rat.mul_lt_mul_of_pos_right h6 h4
  generalize ((2 ^ e.den : Nat) : Rat) = y at *
  have e1 : e * y * hp e.den = e := by grind
  rw [e1] at h7
  grind
end
end Sp
/-! RE 3: roots of fractions. -/
namespace Sp
noncomputable section
theorem lt_of_sq {x y : Rat} (hy : 0 ≤ y) (h : x * x < y * y) : x < y := by
  refine Rat.not_le.mp fun z => ?_
  have h1 := Rat.mul_le_mul_of_nonneg_left z hy
  have h2 := Rat.mul_le_mul_of_nonneg_right z (c := x) (by grind)
  grind
def rf (M n : Nat) : Rat := ((isq (M * (2 ^ n * 2 ^ n)) : Nat) : Rat) * hp n
theorem rf_spec (M n : Nat) : 0 ≤ rf M n ∧ rf M n * rf M n ≤ (M : Rat) ∧ (M : Rat) < (rf M n + hp n) * (rf M n + hp n) := by
  obtain ⟨h1, h2⟩ := isq_spec (M * (2 ^ n * 2 ^ n))
  unfold rf
  generalize isq (M * (2 ^ n * 2 ^ n)) = k at *
  have g1 : ((k * k : Nat) : Rat) ≤ ((M * (2 ^ n * 2 ^ n) : Nat) : Rat) := Rat.natCast_le_natCast.mpr h1
  have g2 : ((M * (2 ^ n * 2 ^ n) : Nat) : Rat) < (((k + 1) * (k + 1) : Nat) : Rat) := Rat.natCast_lt_natCast.mpr h2
  have c1 : ((M * (2 ^ n * 2 ^ n) : Nat) : Rat) = (M : Rat) * (((2 ^ n : Nat) : Rat) * ((2 ^ n : Nat) : Rat)) := by rw [Rat.natCast_mul, Rat.natCast_mul]
  have c2 : ((k * k : Nat) : Rat) = (k : Rat) * (k : Rat) := Rat.natCast_mul _ _
  have c3 : (((k + 1) * (k + 1) : Nat) : Rat) = ((k : Rat) + 1) * ((k : Rat) + 1) := by
    rw [Rat.natCast_mul, Rat.natCast_add]
    rfl
  rw [c1, c2] at g1
  rw [c1, c3] at g2
  have h3 := hp_mul n
  have h4 := hp_pos n
  have hk : (0 : Rat) ≤ (k : Rat) := Rat.natCast_nonneg
  generalize ((2 ^ n : Nat) : Rat) = p at *
  generalize (k : Rat) = K at *
  generalize (M : Rat) = m at *
  have hh : 0 < hp n * hp n := Rat.mul_pos h4 h4
  have a1 := Rat.mul_le_mul_of_nonneg_right g1 (Rat.le_of_lt hh)
  have a2 := Rat.mul_lt_mul_of_pos_right g2 hh
  have e1 : m * (p * p) * (hp n * hp n) = m := by grind
  rw [e1] at a1 a2
  refine ⟨Rat.mul_nonneg hk (Rat.le_of_lt h4), ?_, ?_⟩ <;> grind
theorem rf_close (M m n : Nat) : rf M m < rf M n + hp n := by
  obtain ⟨a1, a2, _⟩ := rf_spec M m
  obtain ⟨b1, _, b3⟩ := rf_spec M n
  have := hp_pos n
  exact lt_of_sq (by grind) (by grind)
def rcs (M : Nat) : CS := ⟨rf M, fun e he => by
  obtain ⟨N, hN⟩ := hp_small e he
  refine ⟨N, fun m n hm hn => ?_⟩
  have h1 := rf_close M m n
  have h2 := hp_le hn
  grind⟩
theorem rcs_sq (M : Nat) : R.mk (rcs M) * R.mk (rcs M) = io (M : Rat) := by
  refine Quotient.sound fun e he => ?_
  have hM : (0 : Rat) ≤ (M : Rat) := Rat.natCast_nonneg
  have hB : (0 : Rat) < 2 * (M : Rat) + 3 := by grind
  obtain ⟨N, hN⟩ := hp_small (e / (2 * (M : Rat) + 3)) (by
    rw [Rat.div_def]
    exact Rat.mul_pos he (Rat.inv_pos.mpr hB))
  refine ⟨N, fun n hn => ?_⟩
  show rf M n * rf M n - (M : Rat) < e ∧ (M : Rat) - rf M n * rf M n < e
  obtain ⟨a1, a2, a3⟩ := rf_spec M n
  have h1 := hp_le hn
  have h2 := hp_pos n
  have h3 : hp n ≤ 1 := hp_le (m := 0) (Nat.zero_le n) |> fun z => by
    have : hp 0 = 1 := by decide +kernel
    rwa [this] at z
  have h4 : rf M n < (M : Rat) + 2 := by
    refine lt_of_sq (by grind) ?_
    have := Rat.mul_nonneg hM hM
    grind
  have h5 : (2 * (M : Rat) + 3) * hp n < e := by
    have h6 := Rat.mul_lt_mul_of_pos_left (show hp n < e / (2 * (M : Rat) + 3) by grind) hB
    have h7 : (2 * (M : Rat) + 3) * (e / (2 * (M : Rat) + 3)) = e := by
      have : (2 * (M : Rat) + 3) ≠ 0 := by grind
      grind
    grind
  have h8 := Rat.mul_nonneg (show 0 ≤ (M : Rat) + 1 - rf M n by
    have h9 : rf M n < (M : Rat) + 2 := h4
    have h10 : rf M n * rf M n ≤ ((M : Rat) + 1) * ((M : Rat) + 1) := by
      have := Rat.mul_nonneg hM hM
      grind
    by_cases z : rf M n ≤ (M : Rat) + 1
    · grind
    · have z2 : (M : Rat) + 1 < rf M n := by grind
      have := lt_of_sq (x := (M : Rat) + 1) (y := rf M n) a1
      have z3 := Rat.mul_lt_mul_of_pos_left z2 (show 0 < rf M n by grind)
      have z4 := Rat.mul_lt_mul_of_pos_right z2 (show 0 < (M : Rat) + 1 by grind)
      grind) (Rat.le_of_lt h2)
  have h11 := Rat.mul_nonneg (show 0 ≤ 1 - hp n by grind) (Rat.le_of_lt h2)
  constructor <;> grind
theorem rcs_nonneg (M : Nat) : 0 ≤ R.mk (rcs M) := by
  rw [R.le_def]
  rintro ⟨e, he, N, hN⟩
  have h1 : e < ((0 : Nat) : Rat) + -rf M N := hN N (Nat.le_refl _)
  have h2 := (rf_spec M N).1
  grind
theorem root_ex (r : Rat) (h : 0 ≤ r) : ∃ s : R, 0 ≤ s ∧ s * s = io r := by
  have hd : (0 : Rat) < (r.den : Rat) := Rat.natCast_pos.mpr r.den_pos
  have hr : r = (r.num : Rat) / (r.den : Rat) := by
    rw [← Rat.intCast_natCast, ← Rat.divInt_eq_div, Rat.num_divInt_den]
  have hn : 0 ≤ r.num := Rat.num_nonneg.mpr h
  obtain ⟨k, hk⟩ := Int.eq_ofNat_of_zero_le hn
  have hr2 : r = (k : Rat) / (r.den : Rat) := by
    rw [hk] at hr
    exact hr
  refine ⟨R.mk (rcs (k * r.den)) * io (1 / (r.den : Rat)), ?_, ?_⟩
  · refine R.mul_nonneg (rcs_nonneg _) ?_
    have : (0 : Rat) ≤ 1 / (r.den : Rat) := by
      rw [Rat.div_def]
      have := Rat.inv_pos.mpr hd
      grind
    exact io_le.mpr this
  · have h1 := rcs_sq (k * r.den)
    have h2 : ((k * r.den : Nat) : Rat) = (k : Rat) * (r.den : Rat) := Rat.natCast_mul _ _
    rw [h2] at h1
    have h3 : R.mk (rcs (k * r.den)) * io (1 / (r.den : Rat)) * (R.mk (rcs (k * r.den)) * io (1 / (r.den : Rat))) = (R.mk (rcs (k * r.den)) * R.mk (rcs (k * r.den))) * (io (1 / (r.den : Rat)) * io (1 / (r.den : Rat))) := by grind
    rw [h3, h1, ← io_mul, ← io_mul]
    congr 1
    have key : ∀ x a d : Rat, d ≠ 0 → x = a / d → a * d * (1 / d * (1 / d)) = x := fun x a d => by grind
    exact key _ _ _ (by grind) hr2
open Classical in
/-- the root of a fraction -/
def rt (r : Rat) : R := if h : 0 ≤ r then Classical.choose (root_ex r h) else 0
theorem rt_nonneg (r : Rat) : 0 ≤ rt r := by
  unfold rt
  split
  · rename_i h
    exact (Classical.choose_spec (root_ex r h)).1
  · grind
theorem rt_sq {r : Rat} (h : 0 ≤ r) : rt r * rt r = io r := by
  unfold rt
  rw [dif_pos h]
  exact (Classical.choose_spec (root_ex r h)).2
theorem R.lt_of_sq {x y : R} (hy : 0 ≤ y) (h : x * x < y * y) : x < y := by
  refine R.not_le.mp fun z => ?_
  have h1 := R.mul_nonneg (a := x - y) (b := x + y) (by grind) (by grind)
  grind
theorem R.le_of_sq {x y : R} (hy : 0 ≤ y) (h : x * x ≤ y * y) : x ≤ y := by
  refine R.not_lt.mp fun z => ?_
  have h1 := R.mul_pos (a := x - y) (b := x + y) (by grind) (by grind)
  grind
theorem R.eq_of_sq {x y : R} (hx : 0 ≤ x) (hy : 0 ≤ y) (h : x * x = y * y) : x = y := by
  have h1 := R.le_of_sq hy (x := x) (by grind)
  have h2 := R.le_of_sq hx (x := y) (by grind)
  grind
theorem rt_of_sq {r q : Rat} (hq : 0 ≤ q) (h : r = q * q) : rt r = io q := by
  subst h
  have h1 : (0 : Rat) ≤ q * q := Rat.mul_nonneg hq hq
  refine R.eq_of_sq (rt_nonneg _) (io_le.mpr hq) ?_
  rw [rt_sq h1, io_mul]
theorem rt_zero : rt 0 = 0 := rt_of_sq (q := 0) (by grind) (by grind)
end
end Sp
/-! SU 1: signs of sums of roots. -/
namespace Sp
noncomputable section
open Classical in
/-- the sign -/
def sg (x : R) : Int := if 0 < x then 1 else if x < 0 then -1 else 0
theorem sg_pos {x : R} (h : 0 < x) : sg x = 1 := by
  unfold sg
  rw [if_pos h]
theorem sg_neg {x : R} (h : x < 0) : sg x = -1 := by
  unfold sg
  rw [if_neg (by grind), if_pos h]
theorem sg_zero : sg 0 = 0 := by
  unfold sg
  rw [if_neg (by grind), if_neg (by grind)]
theorem sg_cases (x : R) : (0 < x ∧ sg x = 1) ∨ (x < 0 ∧ sg x = -1) ∨ (x = 0 ∧ sg x = 0) := by
  by_cases h : 0 < x
  · exact .inl ⟨h, sg_pos h⟩
  · by_cases g : x < 0
    · exact .inr (.inl ⟨g, sg_neg g⟩)
    · have : x = 0 := by grind
      subst this
      exact .inr (.inr ⟨rfl, sg_zero⟩)
theorem sg_lt {x : R} : sg x < 0 ↔ x < 0 := by
  rcases sg_cases x with ⟨h, e⟩ | ⟨h, e⟩ | ⟨h, e⟩ <;> rw [e] <;> constructor <;> intro z <;> first | grind | omega
theorem sg_gt {x : R} : 0 < sg x ↔ 0 < x := by
  rcases sg_cases x with ⟨h, e⟩ | ⟨h, e⟩ | ⟨h, e⟩ <;> rw [e] <;> constructor <;> intro z <;> first | grind | omega
theorem sg_eq {x : R} : sg x = 0 ↔ x = 0 := by
  rcases sg_cases x with ⟨h, e⟩ | ⟨h, e⟩ | ⟨h, e⟩ <;> rw [e] <;> constructor <;> intro z <;> first | grind | omega
theorem sg_mul {c x : R} (hc : 0 < c) : sg (c * x) = sg x := by
  rcases sg_cases x with ⟨h, e⟩ | ⟨h, e⟩ | ⟨h, e⟩
  · rw [e, sg_pos (R.mul_pos hc h)]
  · have := R.mul_pos hc (show 0 < -x by grind)
    rw [e, sg_neg (by grind)]
  · subst h
    rw [show c * 0 = (0 : R) by grind]
theorem sg_opp (x : R) : sg (-x) = -sg x := by
  rcases sg_cases x with ⟨h, e⟩ | ⟨h, e⟩ | ⟨h, e⟩
  · rw [e, sg_neg (by grind)]
  · rw [e, sg_pos (by grind)]
    rfl
  · subst h
    rw [show -(0 : R) = 0 by grind, sg_zero]
    rfl
/-- a whole number as a real -/
def ii (n : Int) : R := io (n : Rat)
theorem ii_add (a b : Int) : ii (a + b) = ii a + ii b := by
  unfold ii
  rw [Rat.intCast_add, io_add]
theorem ii_mul (a b : Int) : ii (a * b) = ii a * ii b := by
  unfold ii
  rw [Rat.intCast_mul, io_mul]
theorem ii_sub (a b : Int) : ii (a - b) = ii a - ii b := by
  unfold ii
  rw [Rat.intCast_sub, io_sub]
theorem ii_neg (a : Int) : ii (-a) = -ii a := by
  unfold ii
  rw [Rat.intCast_neg, io_neg]
theorem ii_zero : ii 0 = 0 := rfl
theorem ii_one : ii 1 = 1 := rfl
theorem ii_two : ii 2 = 2 := rfl
theorem ii_lt {a b : Int} : ii a < ii b ↔ a < b := by
  unfold ii
  rw [io_lt, Rat.intCast_lt_intCast]
theorem ii_le {a b : Int} : ii a ≤ ii b ↔ a ≤ b := by
  unfold ii
  rw [io_le, Rat.intCast_le_intCast]
theorem ii_inj {a b : Int} : ii a = ii b ↔ a = b := by
  unfold ii
  rw [io_inj, Rat.intCast_inj]
theorem ii_pos {a : Int} : 0 < ii a ↔ 0 < a := ii_lt (a := 0)
theorem sg_ii (n : Int) : sg (ii n) = n.sign := by
  rcases Int.lt_trichotomy n 0 with h | h | h
  · rw [sg_neg (ii_lt (b := 0) |>.mpr h), Int.sign_eq_neg_one_of_neg h]
  · subst h
    exact sg_zero
  · rw [sg_pos (ii_pos.mpr h), Int.sign_eq_one_of_pos h]
/-- the root of a whole number -/
def ri (n : Int) : R := rt (n : Rat)
theorem ri_nonneg (n : Int) : 0 ≤ ri n := rt_nonneg _
theorem ri_sq {n : Int} (h : 0 ≤ n) : ri n * ri n = ii n := rt_sq (Rat.intCast_nonneg.mpr h)
theorem ri_zero : ri 0 = 0 := rt_zero
theorem ri_pos {n : Int} (h : 0 < n) : 0 < ri n := by
  have h1 := ri_sq (n := n) (by omega)
  have h2 := ri_nonneg n
  have h3 := ii_pos.mpr h
  by_cases z : ri n = 0
  · rw [z] at h1
    grind
  · grind
theorem ri_mul {a b : Int} (ha : 0 ≤ a) (hb : 0 ≤ b) : ri (a * b) = ri a * ri b := by
  refine R.eq_of_sq (ri_nonneg _) (R.mul_nonneg (ri_nonneg _) (ri_nonneg _)) ?_
  have h1 := ri_sq ha
  have h2 := ri_sq hb
  rw [ri_sq (Int.mul_nonneg ha hb), ii_mul]
  grind
theorem ri_sqr {a : Int} (ha : 0 ≤ a) : ri (a * a) = ii a := by
  refine R.eq_of_sq (ri_nonneg _) (ii_le (a := 0) |>.mpr ha) ?_
  rw [ri_sq (Int.mul_nonneg ha ha), ii_mul]
theorem sg_rt (q r : Int) (hr : 0 ≤ r) : sg (ii q * ri r) = if 0 < r then q.sign else 0 := by
  split
  · rename_i h
    have : ii q * ri r = ri r * ii q := by grind
    rw [this, sg_mul (ri_pos h), sg_ii]
  · have : r = 0 := by omega
    subst this
    rw [ri_zero, show ii q * 0 = (0 : R) by grind, sg_zero]
/-- the sign of a sum -/
def sum2 (a b c : Int) : Int := if a = 0 ∨ b = 0 ∨ a = b then (if a ≠ 0 then a else b) else a * c
theorem sum2_eq (x y : R) : sum2 (sg x) (sg y) (sg (x * x - y * y)) = sg (x + y) := by
  unfold sum2
  rcases sg_cases x with ⟨h, e⟩ | ⟨h, e⟩ | ⟨h, e⟩ <;> rcases sg_cases y with ⟨g, k⟩ | ⟨g, k⟩ | ⟨g, k⟩ <;> rw [e, k]
  · simp
    rw [sg_pos (by grind)]
  · simp
    have : x * x - y * y = (x - y) * (x + y) := by grind
    rw [this, sg_mul (by grind)]
  · subst g
    simp
    rw [show x + 0 = x by grind, e]
  · simp
    have : x * x - y * y = (y - x) * -(x + y) := by grind
    rw [this, sg_mul (by grind), sg_opp]
    omega
  · simp
    rw [sg_neg (by grind)]
  · subst g
    simp
    rw [show x + 0 = x by grind, e]
  · subst h
    simp
    rw [show 0 + y = y by grind, k]
  · subst h
    simp
    rw [show 0 + y = y by grind, k]
  · subst h
    subst g
    simp
    rw [show (0 : R) + 0 = 0 by grind, sg_zero]
theorem is_sign (n : Int) : IS 1 n.sign := by
  rcases Int.lt_trichotomy n 0 with h | h | h
  · rw [Int.sign_eq_neg_one_of_neg h]
    exact show (-1 : Int).natAbs < 2 ^ 1 by decide
  · subst h
    exact show (0 : Int).sign.natAbs < 2 ^ 1 by decide
  · rw [Int.sign_eq_one_of_pos h]
    exact show (1 : Int).natAbs < 2 ^ 1 by decide
theorem sg_is (x : R) : IS 1 (sg x) := by
  rcases sg_cases x with ⟨h, e⟩ | ⟨h, e⟩ | ⟨h, e⟩ <;> rw [e] <;> first | exact show (1 : Int).natAbs < 2 ^ 1 by decide | exact show (-1 : Int).natAbs < 2 ^ 1 by decide | exact show (0 : Int).natAbs < 2 ^ 1 by decide
/-! ### the program's signs -/
theorem G_sign_of_one_eq {m n l : Nat} {p q r : Int} {w : W} (hp : IS m p) (hq : IS n q) (hr : IS l r) (h0 : 0 ≤ r) (hs : 2 * m + 2 * n + l < 1000000 := by omega) : G_sign_of_one [.int p, .int q, .int r] w = some (.int (sg (ii p + ii q * ri r)), w) := by
  have h1 : sg (ii p * ii p - ii q * ri r * (ii q * ri r)) = (p * p - q * q * r).sign := by
    rw [← sg_ii, ii_sub, ii_mul, ii_mul, ii_mul]
    have := ri_sq h0
    congr 1
    grind
  have h2 := sum2_eq (ii p) (ii q * ri r)
  rw [h1, sg_ii, sg_rt q r h0] at h2
  rw [← h2]
  unfold sum2
  simp only [G_sign_of_one, B_sign_of_one]
  have m1 := mulOk_of hp hp (by omega)
  have m2 := mulOk_of hq hq (by omega)
  have m3 := mulOk_of (hq.mul hq) hr (by omega)
  have m4 := mulOk_of (is_sign p) (is_sign (p * p - q * q * r)) (by omega)
  generalize hc : (p * p - q * q * r).sign = cc at *
  by_cases hr0 : 0 < r
  · rw [if_pos hr0]
    generalize hb : q.sign = b
    by_cases c1 : p.sign = 0
    · simp [G_sign_of_eq, hr0, hb, c1, m1, m2, m3]
    · by_cases c2 : b = 0
      · simp [G_sign_of_eq, hr0, hb, c1, c2, m1, m2, m3]
      · by_cases c3 : p.sign = b
        · simp [G_sign_of_eq, hr0, hb, c1, c2, c3, m1, m2, m3]
        · simp [G_sign_of_eq, hr0, hb, c1, c2, c3, m1, m2, m3, hc, m4]
  · rw [if_neg hr0]
    by_cases c1 : p.sign = 0
    · simp [G_sign_of_eq, hr0, c1, m1, m2, m3]
    · simp [G_sign_of_eq, hr0, c1, m1, m2, m3]
theorem G_sign_of_two_eq {m n l k j : Nat} {p q r s t : Int} {w : W} (hp : IS m p) (hq : IS n q) (hr : IS l r) (hs' : IS k s) (ht : IS j t) (h0 : 0 ≤ r) (t0 : 0 ≤ t) (hs : 7 * (m + n + l + k + j) + 100 < 1000000 := by omega) :
    G_sign_of_two [.int p, .int q, .int r, .int s, .int t] w = some (.int (sg (ii p + ii q * ri r + ii s * ri t)), w) := by
  have e1 := G_sign_of_one_eq (w := w) hp hq hr h0 (by omega)
  have A1 : IS (2 * m + 2 * n + l + 2 * k + j + 2) (p * p + q * q * r - s * s * t) := (((hp.mul hp).mono (by omega)).add (((hq.mul hq).mul hr).mono (n := 2 * m + 2 * n + l) (by omega))).mono (n := 2 * m + 2 * n + l + 2 * k + j + 1) (by omega) |>.sub (((hs'.mul hs').mul ht).mono (by omega))
  have i2 : IS 2 (2 : Int) := show (2 : Int).natAbs < 2 ^ 2 by decide
  have A2 : IS (2 + m + n) (2 * p * q) := (i2.mul hp).mul hq
  have e2 := G_sign_of_one_eq (w := w) A1 A2 hr h0 (by omega)
  have h1 : sg ((ii p + ii q * ri r) * (ii p + ii q * ri r) - ii s * ri t * (ii s * ri t)) = sg (ii (p * p + q * q * r - s * s * t) + ii (2 * p * q) * ri r) := by
    have k1 := ri_sq h0
    have k2 := ri_sq t0
    rw [ii_sub, ii_add, ii_mul, ii_mul, ii_mul, ii_mul, ii_mul, ii_mul, ii_mul, ii_two]
    congr 1
    grind
  have h2 := sum2_eq (ii p + ii q * ri r) (ii s * ri t)
  rw [h1, sg_rt s t t0] at h2
  have m1 := mulOk_of hp hp (by omega)
  have m2 := mulOk_of hq hq (by omega)
  have m3 := mulOk_of (hq.mul hq) hr (by omega)
  have m4 := mulOk_of hs' hs' (by omega)
  have m5 := mulOk_of (hs'.mul hs') ht (by omega)
  have m6 := mulOk_of i2 hp (by omega)
  have m7 := mulOk_of (i2.mul hp) hq (by omega)
  have m8 := mulOk_of (sg_is (ii p + ii q * ri r)) (sg_is (ii (p * p + q * q * r - s * s * t) + ii (2 * p * q) * ri r)) (by omega)
  generalize hX : sg (ii p + ii q * ri r) = xx at *
  generalize hC : sg (ii (p * p + q * q * r - s * s * t) + ii (2 * p * q) * ri r) = cc at *
  rw [← h2]
  unfold sum2
  simp only [G_sign_of_two, B_sign_of_two]
  by_cases hr0 : 0 < t
  · rw [if_pos hr0]
    generalize hb : s.sign = b
    by_cases c1 : xx = 0
    · simp [e1, G_sign_of_eq, hr0, hb, c1]
    · by_cases c2 : b = 0
      · simp [e1, G_sign_of_eq, hr0, hb, c1, c2]
      · by_cases c3 : xx = b
        · simp [e1, G_sign_of_eq, hr0, hb, c1, c2, c3]
        · simp [e1, G_sign_of_eq, hr0, hb, c1, c2, c3, m1, m2, m3, m4, m5, m6, m7, m8, e2]
  · rw [if_neg hr0]
    by_cases c1 : xx = 0
    · simp [e1, G_sign_of_eq, hr0, c1]
    · simp [e1, G_sign_of_eq, hr0, c1]
end
end Sp
/-! SU 2: the order of surds, on both sides. -/
namespace Sp
noncomputable section
theorem den_mul (a : Rat) : (a.den : Rat) * a = (a.num : Rat) := by
  have h4 : a = (a.num : Rat) / (a.den : Rat) := by
    rw [← Rat.intCast_natCast, ← Rat.divInt_eq_div, Rat.num_divInt_den]
  have h5 : (a.den : Rat) ≠ 0 := by
    have : (0 : Rat) < (a.den : Rat) := Rat.natCast_pos.mpr a.den_pos
    grind
  have key : ∀ x a d : Rat, d ≠ 0 → x = a / d → d * x = a := fun x a d => by grind
  exact key _ _ _ h5 h4
theorem io_frac (a : Rat) : ii a.den * io a = ii a.num := by
  have h := den_mul a
  unfold ii
  rw [← io_mul]
  congr 1
theorem den_ipos (a : Rat) : 0 < ii (a.den : Int) := ii_pos.mpr (by have := a.den_pos; omega)
theorem rt_frac {a : Rat} (h : 0 ≤ a) : ii a.den * rt a = ri (a.num * a.den) := by
  have hn : 0 ≤ a.num := Rat.num_nonneg.mpr h
  have hd := a.den_pos
  refine R.eq_of_sq (R.mul_nonneg (by have := den_ipos a; grind) (rt_nonneg _)) (ri_nonneg _) ?_
  rw [ri_sq (Int.mul_nonneg hn (by omega)), ii_mul, ← io_frac]
  have := rt_sq h
  grind
/-- a surd as the program holds it -/
structure Sd where
  p : Rat
  s : Int
  w : Rat
def Sd.val (x : Sd) : R := io x.p + ii x.s * rt x.w
def encS (x : Sd) : A := .tup [enc x.p, .int x.s, enc x.w]
structure SdOk (n : Nat) (x : Sd) : Prop where
  p : Sz n x.p
  s : IS 1 x.s
  w : Sz n x.w
  nn : 0 ≤ x.w
theorem SdOk.mono {m n : Nat} {x : Sd} (h : SdOk m x) (hn : m ≤ n) : SdOk n x := ⟨h.p.mono hn, h.s, h.w.mono hn, h.nn⟩
theorem G_compared_eq {n : Nat} {x y : Sd} {w : W} (hx : SdOk n x) (hy : SdOk n y) (hn : n ≤ 9000) : G_compared [encS x, encS y] w = some (.int (sg (x.val - y.val)), w) := by
  obtain ⟨p, e, r⟩ := x
  obtain ⟨k, f, u⟩ := y
  obtain ⟨h1, h2, h3, h4⟩ := hx
  obtain ⟨g1, g2, g3, g4⟩ := hy
  dsimp only at h1 h2 h3 h4 g1 g2 g3 g4
  have pq := den_ipos p
  have pm := den_ipos k
  have ps := den_ipos r
  have pv := den_ipos u
  have fp := io_frac p
  have fk := io_frac k
  have m1 := mulOk_of h1.num g1.dn (by omega)
  have m2 := mulOk_of g1.num h1.dn (by omega)
  have B1 : IS (2 * n + 1) (p.num * k.den - k.num * p.den) := ((h1.num.mul g1.dn).mono (n := 2 * n) (by omega)).sub ((g1.num.mul h1.dn).mono (by omega))
  by_cases hz : e = 0 ∧ f = 0
  · obtain ⟨rfl, rfl⟩ := hz
    have e1 : sg (Sd.val ⟨p, 0, r⟩ - Sd.val ⟨k, 0, u⟩) = (p.num * k.den - k.num * p.den).sign := by
      rw [← sg_ii, ii_sub, ii_mul, ii_mul]
      unfold Sd.val
      dsimp only
      rw [ii_zero, ← sg_mul (R.mul_pos pq pm)]
      congr 1
      grind
    rw [e1]
    simp [G_compared, B_compared, encS, enc, m1, m2, G_sign_of_eq]
  · have hz' : ¬ e = 0 ∨ ¬ f = 0 := by omega
    have i2 : IS 1 (-f) := g2.neg
    have B2 := (B1.mul h3.dn).mul g3.dn
    have B3 := ((h2.mul h1.dn).mul g1.dn).mul g3.dn
    have B4 := h3.num.mul h3.dn
    have B5 := ((i2.mul h1.dn).mul g1.dn).mul h3.dn
    have B6 := g3.num.mul g3.dn
    have n1 : 0 ≤ r.num * r.den := Int.mul_nonneg (Rat.num_nonneg.mpr h4) (by omega)
    have n2 : 0 ≤ u.num * u.den := Int.mul_nonneg (Rat.num_nonneg.mpr g4) (by omega)
    have E := G_sign_of_two_eq (w := w) B2 B3 B4 B5 B6 n1 n2 (by omega)
    have e1 : sg (Sd.val ⟨p, e, r⟩ - Sd.val ⟨k, f, u⟩) = sg (ii ((p.num * k.den - k.num * p.den) * r.den * u.den) + ii (e * p.den * k.den * u.den) * ri (r.num * r.den) + ii (-f * p.den * k.den * r.den) * ri (u.num * u.den)) := by
      rw [← rt_frac h4, ← rt_frac g4, ii_mul, ii_mul, ii_sub, ii_mul, ii_mul, ii_mul, ii_mul, ii_mul, ii_mul, ii_mul, ii_mul, ii_neg, ← fp, ← fk]
      unfold Sd.val
      dsimp only
      rw [← sg_mul (R.mul_pos (R.mul_pos pq pm) (R.mul_pos ps pv))]
      congr 1
      grind
    rw [e1]
    have k1 := mulOk_of B1 h3.dn (by omega)
    have k2 := mulOk_of (B1.mul h3.dn) g3.dn (by omega)
    have k3 := mulOk_of h2 h1.dn (by omega)
    have k4 := mulOk_of (h2.mul h1.dn) g1.dn (by omega)
    have k5 := mulOk_of ((h2.mul h1.dn).mul g1.dn) g3.dn (by omega)
    have k6 := mulOk_of h3.num h3.dn (by omega)
    have k7 := mulOk_of i2 h1.dn (by omega)
    have k8 := mulOk_of (i2.mul h1.dn) g1.dn (by omega)
    have k9 := mulOk_of ((i2.mul h1.dn).mul g1.dn) h3.dn (by omega)
    have k10 := mulOk_of g3.num g3.dn (by omega)
    by_cases he : e = 0
    · have hf : ¬ f = 0 := by omega
      subst he
      simp only [Int.zero_mul] at E k3 k4 k5 ⊢
      simp [G_compared, B_compared, encS, enc, m1, m2, hf, k1, k2, k3, k4, k5, k6, k7, k8, k9, k10, E]
    · simp [G_compared, B_compared, encS, enc, m1, m2, he, k1, k2, k3, k4, k5, k6, k7, k8, k9, k10, E]
/-! ### the law's surds -/
/-- (b, s, r, d) stands for x -/
structure LV (n : Nat) (b s r d : Int) (x : R) : Prop where
  d0 : 0 < d
  r0 : 0 ≤ r
  eq : ii d * x = ii b + ii s * ri r
  b : IS n b
  s : IS n s
  r : IS n r
  d : IS n d
theorem is_abs {n : Nat} {i : Int} (h : IS n i) : IS n (if i < 0 then -i else i) := by
  split
  · exact h.neg
  · exact h
theorem sg_quad {X Y U V : R} (h1 : 0 ≤ X → U = X * X) (h2 : X ≤ 0 → U = -(X * X)) (h3 : 0 ≤ Y → V = Y * Y) (h4 : Y ≤ 0 → V = -(Y * Y)) : sg (U + V) = sg (X + Y) := by
  have sq : ∀ {a b : R}, 0 ≤ a → 0 ≤ b → sg (a * a - b * b) = sg (a - b) := fun {a b} ha hb => by
    have e : a * a - b * b = (a + b) * (a - b) := by grind
    rw [e]
    by_cases z : a + b = 0
    · have : a = 0 := by grind
      have : b = 0 := by grind
      subst a
      subst b
      congr 1
      grind
    · exact sg_mul (by grind)
  rcases Std.le_total (a := 0) (b := X) with hX | hX <;> rcases Std.le_total (a := 0) (b := Y) with hY | hY
  · rw [h1 hX, h3 hY]
    have e := sq (a := X + Y) (b := 0) (by grind) (by grind)
    have p1 := R.mul_nonneg hX hY
    by_cases z : X + Y = 0
    · have : X = 0 := by grind
      have : Y = 0 := by grind
      subst X
      subst Y
      congr 1
      grind
    · have q1 := R.mul_nonneg hX hX
      have q2 := R.mul_nonneg hY hY
      rw [sg_pos (x := X + Y) (by grind)]
      refine sg_pos ?_
      by_cases z2 : X = 0
      · subst X
        have := R.mul_pos (a := Y) (b := Y) (by grind) (by grind)
        grind
      · have := R.mul_pos (a := X) (b := X) (by grind) (by grind)
        grind
  · rw [h1 hX, h4 hY]
    have e := sq (a := X) (b := -Y) hX (by grind)
    rw [show X * X + -(Y * Y) = X * X - -Y * -Y by grind, e]
    congr 1
    grind
  · rw [h2 hX, h3 hY]
    have e := sq (a := Y) (b := -X) hY (by grind)
    rw [show -(X * X) + Y * Y = Y * Y - -X * -X by grind, e]
    congr 1
    grind
  · rw [h2 hX, h4 hY]
    have p1 := R.mul_nonneg (a := -X) (b := -Y) (by grind) (by grind)
    by_cases z : X + Y = 0
    · have : X = 0 := by grind
      have : Y = 0 := by grind
      subst X
      subst Y
      congr 1
      grind
    · rw [sg_neg (x := X + Y) (by grind)]
      refine sg_neg ?_
      by_cases z2 : X = 0
      · subst X
        have := R.mul_pos (a := -Y) (b := -Y) (by grind) (by grind)
        grind
      · have := R.mul_pos (a := -X) (b := -X) (by grind) (by grind)
        have q2 := R.mul_nonneg (a := -Y) (b := -Y) (by grind) (by grind)
        grind
def iabs (i : Int) : Int := if i < 0 then -i else i
/-- a |a| r -/
theorem quad_int (a r : Int) (hr : 0 ≤ r) : (0 ≤ ii a * ri r → ii (a * iabs a * r) = ii a * ri r * (ii a * ri r)) ∧ (ii a * ri r ≤ 0 → ii (a * iabs a * r) = -(ii a * ri r * (ii a * ri r))) := by
  have k := ri_sq hr
  have kn := ri_nonneg r
  unfold iabs
  by_cases ha : a < 0
  · rw [if_pos ha, ii_mul, ii_mul, ii_neg]
    have ha2 : ii a < 0 := ii_lt (b := 0) |>.mpr ha
    have h2 := R.mul_nonneg (a := -ii a) (b := ri r) (by grind) kn
    constructor
    · intro h
      have h0 : ii a * ri r = 0 := by grind
      have h3 : ii r * ii a = 0 := by
        have : ii r * ii a = ri r * (ii a * ri r) := by grind
        rw [this, h0]
        grind
      rw [h0]
      grind
    · intro h
      grind
  · rw [if_neg ha, ii_mul, ii_mul]
    have ha2 : 0 ≤ ii a := ii_le (a := 0) |>.mpr (by omega)
    have h2 := R.mul_nonneg (a := ii a) (b := ri r) ha2 kn
    constructor
    · intro h
      grind
    · intro h
      have h0 : ii a * ri r = 0 := by grind
      have h3 : ii r * ii a = 0 := by
        have : ii r * ii a = ri r * (ii a * ri r) := by grind
        rw [this, h0]
        grind
      rw [h0]
      grind
theorem bAbs_eq (a : Int) : bAbs [.int a] = some (.int (iabs a)) := rfl
theorem iabs_is {n : Nat} {i : Int} (h : IS n i) : IS n (iabs i) := is_abs h
theorem G__law_root_sign_eq {m n l : Nat} {p q r : Int} {w : W} (hp : IS m p) (hq : IS n q) (hr : IS l r) (h0 : 0 ≤ r) (hs : 2 * m + 2 * n + l < 1000000 := by omega) : G__law_root_sign [.int p, .int q, .int r] w = some (.int (sg (ii p + ii q * ri r)), w) := by
  have q1 := quad_int p 1 (by decide)
  have q2 := quad_int q r h0
  have one : ri 1 = 1 := by
    have := ri_sqr (a := 1) (by decide)
    rw [Int.one_mul] at this
    exact this
  have e := sg_quad q1.1 q1.2 q2.1 q2.2
  rw [one, show ii p * 1 = ii p by grind, ← ii_add, sg_ii, Int.mul_one] at e
  rw [← e]
  have m1 := mulOk_of hp (iabs_is hp) (by omega)
  have m2 := mulOk_of hq (iabs_is hq) (by omega)
  have m3 := mulOk_of (hq.mul (iabs_is hq)) hr (by omega)
  simp [G__law_root_sign, B__law_root_sign, -bAbs, bAbs_eq, m1, m2, m3, G__law_sign_eq]
def encL (b s r d : Int) : A := .tup [.int b, .int s, .int r, .int d]
theorem sign3 (a b : Int) (h : 0 ≤ a.sign * b.sign) : (a.sign + 2 * b.sign).sign = if a.sign = 0 ∨ b.sign = 0 ∨ b.sign = a.sign then (if b.sign ≠ 0 then b.sign else a.sign) else 0 := by
  rcases Int.lt_trichotomy a 0 with h1 | h1 | h1 <;> rcases Int.lt_trichotomy b 0 with h2 | h2 | h2 <;> simp [h1, h2, Int.sign_eq_neg_one_of_neg, Int.sign_eq_one_of_pos] at h ⊢ <;> decide
theorem sg_range (x : R) : sg x = -1 ∨ sg x = 0 ∨ sg x = 1 := by
  rcases sg_cases x with ⟨h, e⟩ | ⟨h, e⟩ | ⟨h, e⟩ <;> omega
theorem sign_sg (x : R) : (sg x).sign = sg x := by
  rcases sg_range x with h | h | h <;> rw [h] <;> rfl
theorem order_sum (X Y : R) : (if sg Y * sg X ≥ 0 then (sg Y + 2 * sg X).sign else sg X * sg (X * X - Y * Y)) = sg (X + Y) := by
  rw [← sum2_eq]
  unfold sum2
  rcases sg_range X with h | h | h <;> rcases sg_range Y with k | k | k <;> rw [h, k] <;> simp <;> decide
theorem law_order {n : Nat} {b s r d b' s' r' d' : Int} {x y : R} {w : W} (hx : LV n b s r d x) (hy : LV n b' s' r' d' y) (hn : n ≤ 30000) : G__law_surd_order [encL b s r d, encL b' s' r' d'] w = some (.int (sg (x - y)), w) := by
  have pd := ii_pos.mpr hx.d0
  have pd' := ii_pos.mpr hy.d0
  have A0 : IS (2 * n + 1) (b * d' - b' * d) := ((hx.b.mul hy.d).mono (n := 2 * n) (by omega)).sub ((hy.b.mul hx.d).mono (by omega))
  have A1 : IS (2 * n) (s * d') := (hx.s.mul hy.d).mono (by omega)
  have A2 : IS (2 * n + 1) (0 - s' * d) := by
    have := (hy.s.mul hx.d).neg.mono (n := 2 * n + 1) (by omega)
    rwa [← Int.zero_sub] at this
  generalize ha0 : b * d' - b' * d = a0 at *
  generalize ha1 : s * d' = a1 at *
  generalize ha2 : 0 - s' * d = a2 at *
  have total : ii d * ii d' * (x - y) = ii a0 + (ii a1 * ri r + ii a2 * ri r') := by
    have e1 := hx.eq
    have e2 := hy.eq
    rw [← ha0, ← ha1, ← ha2, ii_sub, ii_sub, ii_mul, ii_mul, ii_mul, ii_mul, ii_zero]
    grind
  have q1 := quad_int a1 r hx.r0
  have q2 := quad_int a2 r' hy.r0
  have way := sg_quad q1.1 q1.2 q2.1 q2.2
  rw [← ii_add, sg_ii] at way
  have k1 := ri_sq hx.r0
  have k2 := ri_sq hy.r0
  have k3 := ri_mul hx.r0 hy.r0
  have below : ii a0 * ii a0 - (ii a1 * ri r + ii a2 * ri r') * (ii a1 * ri r + ii a2 * ri r') = ii (a0 * a0 - a1 * a1 * r - a2 * a2 * r') + ii (0 - 2 * a1 * a2) * ri (r * r') := by
    rw [k3, ii_sub, ii_sub, ii_sub, ii_mul, ii_mul, ii_mul, ii_mul, ii_mul, ii_mul, ii_mul, ii_zero, ii_two]
    grind
  have fin := order_sum (ii a0) (ii a1 * ri r + ii a2 * ri r')
  rw [← total, sg_mul (R.mul_pos pd pd'), below, ← way, sg_ii] at fin
  have i2 : IS 2 (2 : Int) := show (2 : Int).natAbs < 2 ^ 2 by decide
  have A3 : IS (4 * n + 2 + n + n + 3) (a0 * a0 - a1 * a1 * r - a2 * a2 * r') := ((((A0.mul A0).mono (n := 6 * n + 2) (by omega)).sub (((A1.mul A1).mul hx.r).mono (by omega))).sub (((A2.mul A2).mul hy.r).mono (by omega))).mono (by omega)
  have A4 : IS (2 + 2 * n + (2 * n + 1) + 1) (0 - 2 * a1 * a2) := by
    have := ((i2.mul A1).mul A2).neg.mono (n := 2 + 2 * n + (2 * n + 1) + 1) (by omega)
    rwa [← Int.zero_sub] at this
  have E := G__law_root_sign_eq (w := w) A3 A4 (hx.r.mul hy.r) (Int.mul_nonneg hx.r0 hy.r0) (by omega)
  have m1 := mulOk_of hx.b hy.d (by omega)
  have m2 := mulOk_of hy.b hx.d (by omega)
  have m3 := mulOk_of hx.s hy.d (by omega)
  have m4 := mulOk_of hy.s hx.d (by omega)
  have m5 := mulOk_of A1 (iabs_is A1) (by omega)
  have m6 := mulOk_of (A1.mul (iabs_is A1)) hx.r (by omega)
  have m7 := mulOk_of A2 (iabs_is A2) (by omega)
  have m8 := mulOk_of (A2.mul (iabs_is A2)) hy.r (by omega)
  have m9 := mulOk_of A0 A0 (by omega)
  have m10 := mulOk_of A1 A1 (by omega)
  have m11 := mulOk_of (A1.mul A1) hx.r (by omega)
  have m12 := mulOk_of A2 A2 (by omega)
  have m13 := mulOk_of (A2.mul A2) hy.r (by omega)
  have m14 := mulOk_of i2 A1 (by omega)
  have m15 := mulOk_of (i2.mul A1) A2 (by omega)
  have m16 := mulOk_of hx.r hy.r (by omega)
  have m17 := mulOk_of (is_sign (a1 * iabs a1 * r + a2 * iabs a2 * r')) (is_sign a0) (by omega)
  have m18 := mulOk_of i2 (is_sign a0) (by omega)
  have m19 := mulOk_of (is_sign a0) (sg_is (ii (a0 * a0 - a1 * a1 * r - a2 * a2 * r') + ii (0 - 2 * a1 * a2) * ri (r * r'))) (by omega)
  rw [← fin]
  generalize sg (ii (a0 * a0 - a1 * a1 * r - a2 * a2 * r') + ii (0 - 2 * a1 * a2) * ri (r * r')) = q at *
  have z : ∀ i : Int, 0 - i = -i := Int.zero_sub
  simp only [z] at ha2
  by_cases c : 0 ≤ (a1 * iabs a1 * r + a2 * iabs a2 * r').sign * a0.sign
  · rw [if_pos c]
    simp [G__law_surd_order, B__law_surd_order, encL, -bAbs, bAbs_eq, m1, m2, m3, m4, m5, m6, m7, m8, m17, m18, ha0, ha1, ha2, G__law_sign_eq, c]
  · rw [if_neg c]
    simp only [z] at E m19
    simp [G__law_surd_order, B__law_surd_order, encL, -bAbs, bAbs_eq, m1, m2, m3, m4, m5, m6, m7, m8, m9, m10, m11, m12, m13, m14, m15, m16, m17, m19, ha0, ha1, ha2, G__law_sign_eq, c, E]
end
end Sp
/-! SP 1: the program's stretches. -/
namespace Sp
noncomputable section
theorem dat_enc (n : Nat) (r : Rat) : A.dat (n + 1) (enc r) = true := by simp [enc]
theorem dat_encS (n : Nat) (x : Sd) : A.dat (n + 2) (encS x) = true := by simp [encS, dat_enc]
/-- one end of a stretch -/
def IsEnd (n : Nat) (a : A) (o : Option R) : Prop := (a = .non ∧ o = none) ∨ ∃ x : Sd, a = encS x ∧ SdOk n x ∧ o = some x.val
/-- between the ends -/
def inI (l h : Option R) (t : R) : Prop := (∀ x, l = some x → x ≤ t) ∧ ∀ y, h = some y → t ≤ y
def IsSpan (n : Nat) (a : A) (S : R → Prop) : Prop := (a = .non ∧ ∀ t, ¬ S t) ∨ ∃ lo hi l h, a = .tup [lo, hi] ∧ IsEnd n lo l ∧ IsEnd n hi h ∧ (∀ x y, l = some x → h = some y → x ≤ y) ∧ ∀ t, S t ↔ inI l h t
theorem IsSpan.iff {n : Nat} {a : A} {S T : R → Prop} (h : IsSpan n a S) (e : ∀ t, S t ↔ T t) : IsSpan n a T := by
  have : S = T := funext fun t => propext (e t)
  rwa [← this]
theorem inI_ne {l h : Option R} (k : ∀ x y, l = some x → h = some y → x ≤ y) : ∃ t, inI l h t := by
  cases l with
  | none =>
    cases h with
    | none => exact ⟨0, And.intro (fun _ z => (nomatch z)) (fun _ z => (nomatch z))⟩
    | some y => exact ⟨y, And.intro (fun _ z => (nomatch z)) (fun y' z => by cases z; exact Std.le_refl _)⟩
  | some x => exact ⟨x, And.intro (fun x' z => by cases z; exact Std.le_refl _) (fun y z => k x y rfl z)⟩
theorem IsSpan.none_iff {n : Nat} {a : A} {S : R → Prop} (h : IsSpan n a S) : a = .non ↔ ∀ t, ¬ S t := by
  rcases h with ⟨h1, h2⟩ | ⟨lo, hi, l, h, rfl, _, _, h3, h4⟩
  · exact ⟨fun _ => h2, fun _ => h1⟩
  · constructor
    · intro z
      cases z
    · intro z
      obtain ⟨t, ht⟩ := inI_ne h3
      exact absurd ((h4 t).mpr ht) (z t)
theorem G_higher_eq {n : Nat} {x y : Sd} {w : W} (hx : SdOk n x) (hy : SdOk n y) (hn : n ≤ 9000) : ∃ z, G_higher_surd [encS x, encS y] w = some (encS z, w) ∧ SdOk n z ∧ x.val ≤ z.val ∧ y.val ≤ z.val ∧ (z = x ∨ z = y) := by
  have e := G_compared_eq (w := w) hx hy hn
  by_cases h : sg (x.val - y.val) < 0
  · have h1 := sg_lt.mp h
    exact ⟨y, by simp [G_higher_surd, B_higher_surd, e, h], hy, by grind, by grind, .inr rfl⟩
  · have h1 : ¬ x.val - y.val < 0 := fun z => h (sg_lt.mpr z)
    exact ⟨x, by simp [G_higher_surd, B_higher_surd, e, h], hx, by grind, by grind, .inl rfl⟩
theorem G_lower_eq {n : Nat} {x y : Sd} {w : W} (hx : SdOk n x) (hy : SdOk n y) (hn : n ≤ 9000) : ∃ z, G_lower_surd [encS x, encS y] w = some (encS z, w) ∧ SdOk n z ∧ z.val ≤ x.val ∧ z.val ≤ y.val ∧ (z = x ∨ z = y) := by
  have e := G_compared_eq (w := w) hy hx hn
  by_cases h : sg (y.val - x.val) < 0
  · have h1 := sg_lt.mp h
    exact ⟨y, by simp [G_lower_surd, B_lower_surd, e, h], hy, by grind, by grind, .inr rfl⟩
  · have h1 : ¬ y.val - x.val < 0 := fun z => h (sg_lt.mpr z)
    exact ⟨x, by simp [G_lower_surd, B_lower_surd, e, h], hx, by grind, by grind, .inl rfl⟩
theorem isN_encS (x : Sd) : fIsN (encS x) = some (.bl false) := rfl
theorem notN_encS (x : Sd) : fNotN (encS x) = some (.bl true) := rfl
theorem eqv_lst (x y : A) (xs : List A) : A.eqv (.lst (x :: xs)) (.lst []) = false := rfl
/-- of two ends those that there are -/
inductive Two (n : Nat) : List A → Option R → Option R → Prop where
  | nil : Two n [] none none
  | one (x : Sd) (h : SdOk n x) : Two n [encS x] (some x.val) none
  | two (x : Sd) (h : SdOk n x) : Two n [encS x] none (some x.val)
  | both (x y : Sd) (h : SdOk n x) (g : SdOk n y) : Two n [encS x, encS y] (some x.val) (some y.val)
theorem lows_eq {n : Nat} {a b : A} {l k : Option R} (ha : IsEnd n a l) (hb : IsEnd n b k) : ∃ xs, (∀ (s0 s1 s2 s3 s4 s5 : Option A) (w : W), lcLoop (xName 6) (xT (xUn fNotN (xVar 6))) (xVar 6) [s0, s1, s2, s3, s4, s5, none] [a, b] w = some (xs, w)) ∧ Two n xs l k := by
  rcases ha with ⟨rfl, rfl⟩ | ⟨x, rfl, hx, rfl⟩ <;> rcases hb with ⟨rfl, rfl⟩ | ⟨y, rfl, hy, rfl⟩
  · exact ⟨[], fun _ _ _ _ _ _ _ => by simp, .nil⟩
  · exact ⟨[encS y], fun _ _ _ _ _ _ _ => by simp [-fNotN, notN_encS, show fNotN A.non = some (.bl false) from rfl], .two y hy⟩
  · exact ⟨[encS x], fun _ _ _ _ _ _ _ => by simp [-fNotN, notN_encS, show fNotN A.non = some (.bl false) from rfl], .one x hx⟩
  · exact ⟨[encS x, encS y], fun _ _ _ _ _ _ _ => by simp [-fNotN, notN_encS], .both x y hx hy⟩
theorem fEq_nil {xs : List A} {n : Nat} {l k : Option R} (h : Two n xs l k) : fEq (.lst xs) (.lst []) = some (.bl xs.isEmpty) := by
  cases h <;> simp [dat_encS] <;> rfl
theorem pick_high {n : Nat} {xs : List A} {l k : Option R} (h : Two n xs l k) (hn : n ≤ 9000) : ∃ c o, (∀ (ss : SS) (w : W), ss[2]? = some (some (.lst xs)) → xIf (xT (xOp fEq (xVar 2) (xLst (xNilA)))) (xC .non) (xCall G_higher_surd (xConsA (xOp fIx (xVar 2) (xC (.int 0))) (xConsA (xOp fIx (xVar 2) (xUn fNeg (xC (.int 1)))) (xNilA)))) ss w = some (c, w)) ∧ IsEnd n c o ∧
    ∀ t, (∀ x, o = some x → x ≤ t) ↔ ((∀ x, l = some x → x ≤ t) ∧ ∀ x, k = some x → x ≤ t) := by
  have e := fEq_nil h
  cases h with
  | nil => exact ⟨.non, none, fun ss w h => by simp [h, -fEq, e], .inl ⟨rfl, rfl⟩, fun t => by simp⟩
  | one x hx =>
    obtain ⟨z, hz, _, _, _, h3⟩ := G_higher_eq (w := []) hx hx hn
    have hz2 : ∀ w, G_higher_surd [encS x, encS x] w = some (encS x, w) := fun w => by
      obtain ⟨z, hz, _, _, _, h3⟩ := G_higher_eq (w := w) hx hx hn
      rw [hz]
      rcases h3 with rfl | rfl <;> rfl
    exact ⟨encS x, some x.val, fun ss w h => by simp [h, -fEq, e, hz2], .inr ⟨x, rfl, hx, rfl⟩, fun t => by simp⟩
  | two x hx =>
    have hz2 : ∀ w, G_higher_surd [encS x, encS x] w = some (encS x, w) := fun w => by
      obtain ⟨z, hz, _, _, _, h3⟩ := G_higher_eq (w := w) hx hx hn
      rw [hz]
      rcases h3 with rfl | rfl <;> rfl
    exact ⟨encS x, some x.val, fun ss w h => by simp [h, -fEq, e, hz2], .inr ⟨x, rfl, hx, rfl⟩, fun t => by simp⟩
  | both x y hx hy =>
    have hz2 : ∃ z, (∀ w, G_higher_surd [encS x, encS y] w = some (encS z, w)) ∧ SdOk n z ∧ x.val ≤ z.val ∧ y.val ≤ z.val ∧ (z = x ∨ z = y) := by
      have ee := fun w => G_compared_eq (w := w) hx hy hn
      by_cases h : sg (x.val - y.val) < 0
      · have h1 := sg_lt.mp h
        exact ⟨y, fun w => by simp [G_higher_surd, B_higher_surd, ee, h], hy, by grind, by grind, .inr rfl⟩
      · have h1 : ¬ x.val - y.val < 0 := fun z => h (sg_lt.mpr z)
        exact ⟨x, fun w => by simp [G_higher_surd, B_higher_surd, ee, h], hx, by grind, by grind, .inl rfl⟩
    obtain ⟨z, hz, h1, h2, h3, h4⟩ := hz2
    refine ⟨encS z, some z.val, fun ss w h => by simp [h, -fEq, e, hz], .inr ⟨z, rfl, h1, rfl⟩, fun t => ?_⟩
    simp
    constructor
    · intro h
      constructor <;> grind
    · rintro ⟨p, q⟩
      rcases h4 with rfl | rfl <;> assumption
theorem pick_low {n : Nat} {xs : List A} {l k : Option R} (h : Two n xs l k) (hn : n ≤ 9000) : ∃ c o, (∀ (ss : SS) (w : W), ss[3]? = some (some (.lst xs)) → xIf (xT (xOp fEq (xVar 3) (xLst (xNilA)))) (xC .non) (xCall G_lower_surd (xConsA (xOp fIx (xVar 3) (xC (.int 0))) (xConsA (xOp fIx (xVar 3) (xUn fNeg (xC (.int 1)))) (xNilA)))) ss w = some (c, w)) ∧ IsEnd n c o ∧
    ∀ t, (∀ x, o = some x → t ≤ x) ↔ ((∀ x, l = some x → t ≤ x) ∧ ∀ x, k = some x → t ≤ x) := by
  have e := fEq_nil h
  have same : ∀ {x : Sd}, SdOk n x → ∀ w, G_lower_surd [encS x, encS x] w = some (encS x, w) := fun {x} hx w => by
    obtain ⟨z, hz, _, _, _, h3⟩ := G_lower_eq (w := w) hx hx hn
    rw [hz]
    rcases h3 with rfl | rfl <;> rfl
  cases h with
  | nil => exact ⟨.non, none, fun ss w h => by simp [h, -fEq, e], .inl ⟨rfl, rfl⟩, fun t => by simp⟩
  | one x hx => exact ⟨encS x, some x.val, fun ss w h => by simp [h, -fEq, e, same hx], .inr ⟨x, rfl, hx, rfl⟩, fun t => by simp⟩
  | two x hx => exact ⟨encS x, some x.val, fun ss w h => by simp [h, -fEq, e, same hx], .inr ⟨x, rfl, hx, rfl⟩, fun t => by simp⟩
  | both x y hx hy =>
    have hz2 : ∃ z, (∀ w, G_lower_surd [encS x, encS y] w = some (encS z, w)) ∧ SdOk n z ∧ z.val ≤ x.val ∧ z.val ≤ y.val ∧ (z = x ∨ z = y) := by
      have ee := fun w => G_compared_eq (w := w) hy hx hn
      by_cases h : sg (y.val - x.val) < 0
      · have h1 := sg_lt.mp h
        exact ⟨y, fun w => by simp [G_lower_surd, B_lower_surd, ee, h], hy, by grind, by grind, .inr rfl⟩
      · have h1 : ¬ y.val - x.val < 0 := fun z => h (sg_lt.mpr z)
        exact ⟨x, fun w => by simp [G_lower_surd, B_lower_surd, ee, h], hx, by grind, by grind, .inl rfl⟩
    obtain ⟨z, hz, h1, h2, h3, h4⟩ := hz2
    refine ⟨encS z, some z.val, fun ss w h => by simp [h, -fEq, e, hz], .inr ⟨z, rfl, h1, rfl⟩, fun t => ?_⟩
    simp
    constructor
    · intro h
      constructor <;> grind
    · rintro ⟨p, q⟩
      rcases h4 with rfl | rfl <;> assumption
/-- met: both -/
theorem G_met_eq {n : Nat} {a b : A} {S T : R → Prop} {w : W} (ha : IsSpan n a S) (hb : IsSpan n b T) (hn : n ≤ 9000) : ∃ c, G_met [a, b] w = some (c, w) ∧ IsSpan n c fun t => S t ∧ T t := by
  rcases ha with ⟨rfl, h1⟩ | ⟨lo1, hi1, l1, k1, rfl, a1, a2, a3, a4⟩
  · exact ⟨.non, by simp [G_met, B_met], .inl ⟨rfl, fun t z => h1 t z.1⟩⟩
  · rcases hb with ⟨rfl, h1⟩ | ⟨lo2, hi2, l2, k2, rfl, b1, b2, b3, b4⟩
    · exact ⟨.non, by simp [G_met, B_met], .inl ⟨rfl, fun t z => h1 t z.2⟩⟩
    · obtain ⟨xs, x1, x2⟩ := lows_eq a1 b1
      obtain ⟨ys, y1, y2⟩ := lows_eq a2 b2
      obtain ⟨c, o, c1, c2, c3⟩ := pick_high x2 hn
      obtain ⟨d, q, d1, d2, d3⟩ := pick_low y2 hn
      have set : ∀ t, (S t ∧ T t) ↔ inI o q t := fun t => by
        rw [a4, b4]
        unfold inI
        rw [c3, d3]
        constructor
        · rintro ⟨⟨p1, p2⟩, p3, p4⟩
          exact ⟨⟨p1, p3⟩, p2, p4⟩
        · rintro ⟨⟨p1, p2⟩, p3, p4⟩
          exact ⟨⟨p1, p3⟩, p2, p4⟩
      rcases c2 with ⟨rfl, rfl⟩ | ⟨x, rfl, hx, rfl⟩
      · exact ⟨.tup [.non, d], by simp [G_met, B_met, -lcLoop, x1, y1, -xIf, c1, d1]; simp, .inr ⟨_, _, _, _, rfl, .inl ⟨rfl, rfl⟩, d2, fun _ _ z => (nomatch z), set⟩⟩
      · rcases d2 with ⟨rfl, rfl⟩ | ⟨y, rfl, hy, rfl⟩
        · exact ⟨.tup [encS x, .non], by simp [G_met, B_met, -lcLoop, x1, y1, -xIf, c1, d1]; simp [-fNotN, notN_encS, show fNotN A.non = some (.bl false) from rfl], .inr ⟨_, _, _, _, rfl, .inr ⟨x, rfl, hx, rfl⟩, .inl ⟨rfl, rfl⟩, fun _ _ _ z => (nomatch z), set⟩⟩
        · have e := G_compared_eq (w := w) hy hx hn
          by_cases h : sg (y.val - x.val) < 0
          · have h1 := sg_lt.mp h
            refine ⟨.non, by simp [G_met, B_met, -lcLoop, x1, y1, -xIf, c1, d1]; simp [-fNotN, notN_encS, e, h], .inl ⟨rfl, fun t z => ?_⟩⟩
            obtain ⟨p1, p2⟩ := (set t).mp z
            have q1 := p1 _ rfl
            have q2 := p2 _ rfl
            grind
          · have h1 : ¬ y.val - x.val < 0 := fun z => h (sg_lt.mpr z)
            exact ⟨.tup [encS x, encS y], by simp [G_met, B_met, -lcLoop, x1, y1, -xIf, c1, d1]; simp [-fNotN, notN_encS, e, h], .inr ⟨_, _, _, _, rfl, .inr ⟨x, rfl, hx, rfl⟩, .inr ⟨y, rfl, hy, rfl⟩, fun p q z1 z2 => by cases z1; cases z2; grind, set⟩⟩
/-- the stretch over both: whatever holds of both and is convex holds of it -/
theorem G_spread_eq {n : Nat} {a b : A} {S T : R → Prop} {w : W} (ha : IsSpan n a S) (hb : IsSpan n b T) (hn : n ≤ 9000) : ∃ c U, G_spread [a, b] w = some (c, w) ∧ IsSpan n c U ∧ (∀ t, S t ∨ T t → U t) ∧ ∀ t, U t → (∃ p, (S p ∨ T p) ∧ p ≤ t) ∧ ∃ p, (S p ∨ T p) ∧ t ≤ p := by
  have self : ∀ t, S t ∨ T t → (∃ p, (S p ∨ T p) ∧ p ≤ t) ∧ ∃ p, (S p ∨ T p) ∧ t ≤ p := fun t h => ⟨⟨t, h, Std.le_refl _⟩, t, h, Std.le_refl _⟩
  rcases id ha with ⟨rfl, h1⟩ | ⟨lo1, hi1, l1, k1, rfl, a1, a2, a3, a4⟩
  · refine ⟨b, T, by simp [G_spread, B_spread], hb, fun t h => ?_, fun t h => self t (.inr h)⟩
    rcases h with h | h
    · exact absurd h (h1 t)
    · exact h
  · rcases id hb with ⟨rfl, h1⟩ | ⟨lo2, hi2, l2, k2, rfl, b1, b2, b3, b4⟩
    · refine ⟨.tup [lo1, hi1], S, by simp [G_spread, B_spread], ha, fun t h => ?_, fun t h => self t (.inl h)⟩
      rcases h with h | h
      · exact h
      · exact absurd h (h1 t)
    · -- the ends
      have lowE : ∃ c o, (∀ ss : SS, ∀ w, ss[0]? = some (some (.tup [lo1, hi1])) → ss[1]? = some (some (.tup [lo2, hi2])) → xIf (xOr (xT (xUn fIsN (xOp fIx (xVar 0) (xC (.int 0))))) (xT (xUn fIsN (xOp fIx (xVar 1) (xC (.int 0)))))) (xC .non) (xCall G_lower_surd (xConsA (xOp fIx (xVar 0) (xC (.int 0))) (xConsA (xOp fIx (xVar 1) (xC (.int 0))) (xNilA)))) ss w = some (c, w)) ∧ IsEnd n c o ∧
          (o = none ∧ (l1 = none ∨ l2 = none) ∨ ∃ x y z, l1 = some x ∧ l2 = some y ∧ o = some z ∧ z ≤ x ∧ z ≤ y ∧ (z = x ∨ z = y)) := by
        rcases a1 with ⟨rfl, rfl⟩ | ⟨x, rfl, hx, rfl⟩
        · exact ⟨.non, none, fun ss w h g => by simp [h, g], .inl ⟨rfl, rfl⟩, .inl ⟨rfl, .inl rfl⟩⟩
        · rcases b1 with ⟨rfl, rfl⟩ | ⟨y, rfl, hy, rfl⟩
          · exact ⟨.non, none, fun ss w h g => by simp [h, g, -fIsN, isN_encS, show fIsN A.non = some (.bl true) from rfl], .inl ⟨rfl, rfl⟩, .inl ⟨rfl, .inr rfl⟩⟩
          · have ee := fun w => G_compared_eq (w := w) hy hx hn
            by_cases h : sg (y.val - x.val) < 0
            · have h1 := sg_lt.mp h
              exact ⟨encS y, some y.val, fun ss w p q => by simp [p, q, -fIsN, isN_encS, G_lower_surd, B_lower_surd, ee, h], .inr ⟨y, rfl, hy, rfl⟩, .inr ⟨_, _, _, rfl, rfl, rfl, by grind, by grind, .inr rfl⟩⟩
            · have h1 : ¬ y.val - x.val < 0 := fun z => h (sg_lt.mpr z)
              exact ⟨encS x, some x.val, fun ss w p q => by simp [p, q, -fIsN, isN_encS, G_lower_surd, B_lower_surd, ee, h], .inr ⟨x, rfl, hx, rfl⟩, .inr ⟨_, _, _, rfl, rfl, rfl, by grind, by grind, .inl rfl⟩⟩
      have highE : ∃ c o, (∀ ss : SS, ∀ w, ss[0]? = some (some (.tup [lo1, hi1])) → ss[1]? = some (some (.tup [lo2, hi2])) → xIf (xOr (xT (xUn fIsN (xOp fIx (xVar 0) (xC (.int 1))))) (xT (xUn fIsN (xOp fIx (xVar 1) (xC (.int 1)))))) (xC .non) (xCall G_higher_surd (xConsA (xOp fIx (xVar 0) (xC (.int 1))) (xConsA (xOp fIx (xVar 1) (xC (.int 1))) (xNilA)))) ss w = some (c, w)) ∧ IsEnd n c o ∧
          (o = none ∧ (k1 = none ∨ k2 = none) ∨ ∃ x y z, k1 = some x ∧ k2 = some y ∧ o = some z ∧ x ≤ z ∧ y ≤ z ∧ (z = x ∨ z = y)) := by
        rcases a2 with ⟨rfl, rfl⟩ | ⟨x, rfl, hx, rfl⟩
        · exact ⟨.non, none, fun ss w h g => by simp [h, g], .inl ⟨rfl, rfl⟩, .inl ⟨rfl, .inl rfl⟩⟩
        · rcases b2 with ⟨rfl, rfl⟩ | ⟨y, rfl, hy, rfl⟩
          · exact ⟨.non, none, fun ss w h g => by simp [h, g, -fIsN, isN_encS, show fIsN A.non = some (.bl true) from rfl], .inl ⟨rfl, rfl⟩, .inl ⟨rfl, .inr rfl⟩⟩
          · have ee := fun w => G_compared_eq (w := w) hx hy hn
            by_cases h : sg (x.val - y.val) < 0
            · have h1 := sg_lt.mp h
              exact ⟨encS y, some y.val, fun ss w p q => by simp [p, q, -fIsN, isN_encS, G_higher_surd, B_higher_surd, ee, h], .inr ⟨y, rfl, hy, rfl⟩, .inr ⟨_, _, _, rfl, rfl, rfl, by grind, by grind, .inr rfl⟩⟩
            · have h1 : ¬ x.val - y.val < 0 := fun z => h (sg_lt.mpr z)
              exact ⟨encS x, some x.val, fun ss w p q => by simp [p, q, -fIsN, isN_encS, G_higher_surd, B_higher_surd, ee, h], .inr ⟨x, rfl, hx, rfl⟩, .inr ⟨_, _, _, rfl, rfl, rfl, by grind, by grind, .inl rfl⟩⟩
      obtain ⟨c, o, c1, c2, c3⟩ := lowE
      obtain ⟨d, q, d1, d2, d3⟩ := highE
      obtain ⟨t1, ht1⟩ := inI_ne a3
      obtain ⟨t2, ht2⟩ := inI_ne b3
      have lowI : ∀ t, (∀ x, o = some x → x ≤ t) → ∃ p, (S p ∨ T p) ∧ p ≤ t := fun t h => by
        rcases c3 with ⟨rfl, rfl | rfl⟩ | ⟨x, y, z, rfl, rfl, rfl, h1, h2, h3⟩
        · by_cases z : t1 ≤ t
          · exact ⟨t1, .inl ((a4 t1).mpr ht1), z⟩
          · exact ⟨t, .inl ((a4 t).mpr ⟨fun _ z => (nomatch z), fun y hy => by have := ht1.2 y hy; grind⟩), Std.le_refl _⟩
        · by_cases z : t2 ≤ t
          · exact ⟨t2, .inr ((b4 t2).mpr ht2), z⟩
          · exact ⟨t, .inr ((b4 t).mpr ⟨fun _ z => (nomatch z), fun y hy => by have := ht2.2 y hy; grind⟩), Std.le_refl _⟩
        · have := h z rfl
          rcases h3 with rfl | rfl
          · exact ⟨z, .inl ((a4 z).mpr ⟨fun _ q => by cases q; exact Std.le_refl _, fun y hy => a3 _ _ rfl hy⟩), this⟩
          · exact ⟨z, .inr ((b4 z).mpr ⟨fun _ q => by cases q; exact Std.le_refl _, fun y hy => b3 _ _ rfl hy⟩), this⟩
      have highI : ∀ t, (∀ x, q = some x → t ≤ x) → ∃ p, (S p ∨ T p) ∧ t ≤ p := fun t h => by
        rcases d3 with ⟨rfl, rfl | rfl⟩ | ⟨x, y, z, rfl, rfl, rfl, h1, h2, h3⟩
        · by_cases z : t ≤ t1
          · exact ⟨t1, .inl ((a4 t1).mpr ht1), z⟩
          · exact ⟨t, .inl ((a4 t).mpr ⟨fun y hy => by have := ht1.1 y hy; grind, fun _ z => (nomatch z)⟩), Std.le_refl _⟩
        · by_cases z : t ≤ t2
          · exact ⟨t2, .inr ((b4 t2).mpr ht2), z⟩
          · exact ⟨t, .inr ((b4 t).mpr ⟨fun y hy => by have := ht2.1 y hy; grind, fun _ z => (nomatch z)⟩), Std.le_refl _⟩
        · have := h z rfl
          rcases h3 with rfl | rfl
          · exact ⟨z, .inl ((a4 z).mpr ⟨fun y hy => a3 _ _ hy rfl, fun _ q => by cases q; exact Std.le_refl _⟩), this⟩
          · exact ⟨z, .inr ((b4 z).mpr ⟨fun y hy => b3 _ _ hy rfl, fun _ q => by cases q; exact Std.le_refl _⟩), this⟩
      have incl : ∀ t, S t ∨ T t → inI o q t := fun t h => by
        constructor
        · intro x hx
          rcases c3 with ⟨rfl, _⟩ | ⟨x', y', z, rfl, rfl, rfl, h1, h2, h3⟩
          · cases hx
          · cases hx
            rcases h with h | h
            · have := ((a4 t).mp h).1 _ rfl
              grind
            · have := ((b4 t).mp h).1 _ rfl
              grind
        · intro x hx
          rcases d3 with ⟨rfl, _⟩ | ⟨x', y', z, rfl, rfl, rfl, h1, h2, h3⟩
          · cases hx
          · cases hx
            rcases h with h | h
            · have := ((a4 t).mp h).2 _ rfl
              grind
            · have := ((b4 t).mp h).2 _ rfl
              grind
      have n1 : fIsN (.tup [lo1, hi1]) = some (.bl false) := rfl
      have n2 : fIsN (.tup [lo2, hi2]) = some (.bl false) := rfl
      refine ⟨.tup [c, d], inI o q, ?_, .inr ⟨c, d, o, q, rfl, c2, d2, fun x y hx hy => ?_, fun t => Iff.rfl⟩, incl, fun t h => ⟨lowI t h.1, highI t h.2⟩⟩
      · simp [G_spread, B_spread, -xIf, -fIsN, n1, n2, c1, d1]
      · have := incl t1 (.inl ((a4 t1).mpr ht1))
        have p1 := this.1 _ hx
        have p2 := this.2 _ hy
        grind
end
end Sp
/-! SP 2: the program's roots and kept sides. -/
namespace Sp
noncomputable section
theorem ratio_sum_raw {m n : Nat} {a : Rat} {c d : Int} {w : W} (h : Sz m a) (hc : IS n c) (hd : IS n d) (h0 : d ≠ 0) (hs : m + n ≤ 9000 := by omega) : G_ratio_sum [enc a, .tup [.int c, .int d]] w = some (enc (a + Rat.divInt c d), w) := by
  have h1 := Int.mul_ne_zero (dn0 a) h0
  have e := G_ratio_eq (w := w) (a := a.num * d + c * a.den) h1 (h.dn.mul hd) hs
  have e2 : a + Rat.divInt c d = Rat.divInt (a.num * d + c * a.den) (a.den * d) := by
    conv => lhs; rw [← Rat.num_divInt_den a]
    exact Rat.divInt_add_divInt _ _ (dn0 a) h0
  rw [e2]
  simp [G_ratio_sum, B_ratio_sum, enc, mulOk_of h.num hd (by omega), mulOk_of hc h.dn (by omega), mulOk_of h.dn hd (by omega), e]
theorem isq_half {n x : Nat} (h : x < 2 ^ (2 * n)) : isq x < 2 ^ n := by
  have h1 := (isq_spec x).1
  refine Nat.not_le.mp fun z => ?_
  have h2 := Nat.mul_le_mul z z
  have h3 : 2 ^ n * 2 ^ n = 2 ^ (2 * n) := by rw [← Nat.pow_add]; congr 1; omega
  omega
theorem enc_int (s : Int) : (A.tup [.int s, .int 1]) = enc (s : Rat) := rfl
theorem sz_int {n : Nat} {s : Int} (h : IS n s) (hn : 1 ≤ n) : Sz n (s : Rat) := ⟨by rw [Rat.num_intCast]; exact h, by rw [Rat.den_intCast]; exact Nat.one_lt_two_pow (by omega)⟩
theorem sz_one : Sz 1 (1 : Rat) := sz_int (s := 1) (show (1 : Int).natAbs < 2 ^ 1 by decide) (by omega)
theorem G_surd_from_eq {N : Nat} {p q : Rat} {s : Int} {w : W} (hp : Sz (3 * N + 2) p) (hq : Sz (6 * N + 4) q) (h0 : 0 ≤ q) (hs : s = 1 ∨ s = -1) (hN : 6 * N + 5 ≤ 9000 - 4) :
    ∃ x, G_surd_from [enc p, .tup [.int s, .int 1], enc q] w = some (encS x, w) ∧ SdOk (6 * N + 5) x ∧ x.val = io p + ii s * rt q := by
  have i1 : IS 1 s := by
    rcases hs with rfl | rfl
    · exact show (1 : Int).natAbs < 2 ^ 1 by decide
    · exact show (-1 : Int).natAbs < 2 ^ 1 by decide
  have e1 := G_ratio_product_eq (w := w) (sz_int i1 (by omega)) (sz_int i1 (by omega)) (by omega)
  have ss : (s : Rat) * (s : Rat) = 1 := by
    rcases hs with rfl | rfl <;> decide +kernel
  rw [ss] at e1
  have e1' : G_ratio_product [.tup [.int s, .int 1], .tup [.int s, .int 1]] w = some (enc 1, w) := e1
  have e2 := G_ratio_product_eq (w := w) sz_one hq (by omega)
  rw [Rat.one_mul] at e2
  have sgn : s.sign = s := by rcases hs with rfl | rfl <;> rfl
  have qn : 0 ≤ q.num := Rat.num_nonneg.mpr h0
  have l1 : q.num.natAbs.log2 < 13000 := by
    have := log2_le hq.num
    omega
  have l2 : q.den.log2 < 13000 := by
    have := log2_le hq.den
    omega
  have tn : (q.num.toNat : Int) = q.num := by omega
  have t1 : isq q.num.toNat < 2 ^ (3 * N + 2) := isq_half (by
    have := hq.num
    unfold IS at this
    rw [show 2 * (3 * N + 2) = 6 * N + 4 by omega]
    omega)
  have t2 : isq q.den < 2 ^ (3 * N + 2) := isq_half (by
    have := hq.den
    rw [show 2 * (3 * N + 2) = 6 * N + 4 by omega]
    exact this)
  have I1 : IS (3 * N + 2) (isq q.num.toNat : Int) := by unfold IS; rw [Int.natAbs_natCast]; exact t1
  have I2 : IS (3 * N + 2) (isq q.den : Int) := by unfold IS; rw [Int.natAbs_natCast]; exact t2
  have m1 := mulOk_of I1 I1 (by omega)
  have m2 := mulOk_of I2 I2 (by omega)
  have m3 := mulOk_of i1 I1 (by omega)
  by_cases c : (isq q.num.toNat : Int) * isq q.num.toNat = q.num ∧ (isq q.den : Int) * isq q.den = q.den
  · have d0 : (isq q.den : Int) ≠ 0 := fun z => by
      rw [z] at c
      have := c.2
      have := q.den_pos
      omega
    have J : IS (3 * N + 2) (s * (isq q.num.toNat : Int)) := by
      rcases hs with rfl | rfl
      · rwa [Int.one_mul]
      · rw [Int.neg_mul, Int.one_mul]
        exact I1.neg
    have e3 := ratio_sum_raw (w := w) hp J I2 d0 (by omega)
    have root : rt q = io (Rat.divInt (isq q.num.toNat) (isq q.den)) := by
      refine rt_of_sq ?_ ?_
      · have : (0 : Int) < isq q.den := by omega
        exact (Rat.divInt_nonneg_iff_of_pos_right this).mpr (by omega)
      · rw [Rat.divInt_mul_divInt, c.1, c.2, Rat.num_divInt_den]
    refine ⟨⟨p + Rat.divInt (s * isq q.num.toNat) (isq q.den), 0, 0⟩, ?_, ⟨?_, ?_, ?_, ?_⟩, ?_⟩
    · have g1 : (isq q.num.toNat : Int) * isq q.num.toNat = q.num := c.1
      have g2 : (isq q.den : Int) * isq q.den = q.den := c.2
      have r1 : G_square_root [enc q] w = some (.tup [.int (isq q.num.toNat), .int (isq q.den)], w) := by
        simp [G_square_root, B_square_root, enc, bIsqrt, qn, l1, l2, m1, m2, g1, g2]
      simp [G_surd_from, B_surd_from, e1', e2, r1, G_sign_of_eq, sgn, m3, e3, G_plain, B_plain]
      rfl
    · have := hp.add (Sz.divInt J I2 d0)
      exact this.mono (by omega)
    · exact show (0 : Int).natAbs < 2 ^ 1 by decide
    · exact (sz_int (s := 0) (show (0 : Int).natAbs < 2 ^ 1 by decide) (by omega)).mono (by omega)
    · exact Rat.le_refl
    · unfold Sd.val
      dsimp only
      rw [rt_zero, root, io_add]
      have : Rat.divInt (s * isq q.num.toNat) (isq q.den) = (s : Rat) * Rat.divInt (isq q.num.toNat) (isq q.den) := by
        rcases hs with rfl | rfl
        · rw [Int.one_mul, Rat.intCast_one, Rat.one_mul]
        · rw [Int.neg_mul, Int.one_mul, ← Rat.neg_divInt]
          have : ((-1 : Int) : Rat) = -1 := rfl
          rw [this]
          grind
      rw [this, io_mul]
      unfold ii
      grind
  · have r1 : G_square_root [enc q] w = some (.non, w) := by
      have c' : ∀ (h : (isq q.num.toNat : Int) * isq q.num.toNat = q.num), ¬ (isq q.den : Int) * isq q.den = q.den := fun h g => c ⟨h, g⟩
      by_cases g1 : (isq q.num.toNat : Int) * isq q.num.toNat = q.num
      · simp [G_square_root, B_square_root, enc, bIsqrt, qn, l1, l2, m1, m2, g1, c' g1]
      · simp [G_square_root, B_square_root, enc, bIsqrt, qn, l1, l2, m1, m2, g1]
    refine ⟨⟨p, s, q⟩, ?_, ⟨hp.mono (by omega), i1, hq.mono (by omega), h0⟩, rfl⟩
    simp [G_surd_from, B_surd_from, e1', e2, r1, G_sign_of_eq, sgn]
    rfl
/-! ### the three numbers of a bent -/
structure Bt where
  c : Rat
  d : Rat
  e : Rat
def encB (b : Bt) : A := .tup [enc b.c, enc b.d, enc b.e]
structure BtOk (n : Nat) (b : Bt) : Prop where
  c : Sz n b.c
  d : Sz n b.d
  e : Sz n b.e
def bv (b : Bt) (t : R) : R := io b.c + io b.d * t + io b.e * (t * t)
theorem rat_frac (a : Rat) : a = Rat.divInt a.num a.den := (Rat.num_divInt_den a).symm
theorem G_roots_lin {N : Nat} {b : Bt} {w : W} (hb : BtOk N b) (he : b.e = 0) (hd : b.d ≠ 0) (hN : 6 * N + 5 ≤ 8990) : ∃ x, G_roots_of [encB b] w = some (.lst [encS x], w) ∧ SdOk (6 * N + 5) x ∧ x.val = io (-b.c / b.d) := by
  obtain ⟨c, d, e⟩ := b
  dsimp only at he hd ⊢
  subst he
  have hn := num0 hd
  have A1 : IS (2 * N) (-c.num * d.den) := (hb.c.num.neg.mul hb.d.dn).mono (by omega)
  have A2 : IS (2 * N) (c.den * d.num) := (hb.c.dn.mul hb.d.num).mono (by omega)
  have n0 : (c.den : Int) * d.num ≠ 0 := Int.mul_ne_zero (dn0 c) hn
  have e1 := G_ratio_eq (w := w) (a := -c.num * d.den) n0 A2 (by omega)
  have m1 := mulOk_of hb.c.num.neg hb.d.dn (by omega)
  have m2 := mulOk_of hb.c.dn hb.d.num (by omega)
  dsimp only at m1 m2
  have val : Rat.divInt (-c.num * d.den) (c.den * d.num) = -c / d := by
    rw [rat_div, Rat.neg_num, Rat.neg_den]
  refine ⟨⟨-c / d, 0, 0⟩, ?_, ⟨?_, ?_, ?_, ?_⟩, ?_⟩
  · rw [val] at e1
    simp [G_roots_of, B_roots_of, encB, enc, hn, m1, m2, e1, G_plain, B_plain]
    rfl
  · have := Sz.divInt A1 A2 n0
    rw [val] at this
    exact this.mono (by omega)
  · exact show (0 : Int).natAbs < 2 ^ 1 by decide
  · exact (sz_int (s := 0) (show (0 : Int).natAbs < 2 ^ 1 by decide) (by omega)).mono (by omega)
  · exact Rat.le_refl
  · unfold Sd.val
    dsimp only
    rw [rt_zero, ii_zero]
    grind
theorem quad_rat {c d e : Rat} (he : e ≠ 0) {p q : Rat} (hp : p = Rat.divInt (-(d.num * c.den * e.den)) (2 * (e.num * c.den * d.den)))
    (hq : q = Rat.divInt (d.num * c.den * e.den * (d.num * c.den * e.den) - 4 * (e.num * c.den * d.den) * (c.num * d.den * e.den)) (4 * (e.num * c.den * d.den) * (e.num * c.den * d.den))) : d = -2 * e * p ∧ c = e * (p * p - q) := by
  have c1 := den_mul c
  have d1 := den_mul d
  have e1 := den_mul e
  have nz : ∀ a : Rat, (a.den : Rat) ≠ 0 := fun a => by
    have : (0 : Rat) < (a.den : Rat) := Rat.natCast_pos.mpr a.den_pos
    grind
  have c2 := nz c
  have d2 := nz d
  have e2 := nz e
  rw [Rat.divInt_eq_div] at hp hq
  simp only [Rat.intCast_neg, Rat.intCast_mul, Rat.intCast_sub, Rat.intCast_natCast] at hp hq
  rw [← c1, ← d1, ← e1] at hq
  rw [← d1, ← e1] at hp
  have t2 : ((2 : Int) : Rat) = 2 := rfl
  have t4 : ((4 : Int) : Rat) = 4 := rfl
  rw [t2] at hp
  rw [t4] at hq
  generalize (c.den : Rat) = x at *
  generalize (d.den : Rat) = y at *
  generalize (e.den : Rat) = z at *
  clear nz c1 d1 e1
  have mne : ∀ {a b : Rat}, a ≠ 0 → b ≠ 0 → a * b ≠ 0 := fun {a b} h g k => by
    rcases Rat.mul_eq_zero.mp k with k | k
    · exact h k
    · exact g k
  have g0 : x * y * z ≠ 0 := mne (mne c2 d2) e2
  have n2 : 2 * (z * e * x * y) ≠ 0 := mne (by decide) (mne (mne (mne e2 he) c2) d2)
  have n4 : 4 * (z * e * x * y) * (z * e * x * y) ≠ 0 := mne (mne (by decide) (mne (mne (mne e2 he) c2) d2)) (mne (mne (mne e2 he) c2) d2)
  have hp2 : p * (2 * (z * e * x * y)) = -(y * d * x * z) := by
    rw [hp, Rat.div_mul_cancel n2]
  have hq2 : q * (4 * (z * e * x * y) * (z * e * x * y)) = y * d * x * z * (y * d * x * z) - 4 * (z * e * x * y) * (x * c * y * z) := by
    rw [hq, Rat.div_mul_cancel n4]
  clear hp hq
  have can : ∀ {a b : Rat}, a ≠ 0 → a * b = 0 → b = 0 := fun {a b} h g => (Rat.mul_eq_zero.mp g).resolve_left h
  have D : d = -2 * e * p := by
    have := can g0 (b := d + 2 * e * p) (by grind)
    grind
  refine ⟨D, ?_⟩
  have := can (mne (mne g0 g0) he) (b := c - e * (p * p - q)) (by
    rw [D] at hq2
    grind)
  grind
theorem G_roots_quad {N : Nat} {b : Bt} {w : W} (hb : BtOk N b) (he : b.e ≠ 0) (hN : 6 * N + 5 ≤ 8990) : ∃ (p q : Rat) (l : List A), b.d = -2 * b.e * p ∧ b.c = b.e * (p * p - q) ∧ G_roots_of [encB b] w = some (.lst l, w) ∧
    ((q < 0 ∧ l = []) ∨ ∃ x y, 0 ≤ q ∧ (l = [encS x, encS y] ∨ (l = [encS x] ∧ y = x)) ∧ SdOk (6 * N + 5) x ∧ SdOk (6 * N + 5) y ∧ x.val = io p - rt q ∧ y.val = io p + rt q) := by
  obtain ⟨c, d, e⟩ := b
  obtain ⟨hc, hd, he'⟩ := hb
  dsimp only at he hc hd he'
  have en := num0 he
  have A : IS (3 * N) (e.num * c.den * d.den) := ((he'.num.mul hc.dn).mul hd.dn).mono (by omega)
  have B : IS (3 * N) (d.num * c.den * e.den) := ((hd.num.mul hc.dn).mul he'.dn).mono (by omega)
  have F : IS (3 * N) (c.num * d.den * e.den) := ((hc.num.mul hd.dn).mul he'.dn).mono (by omega)
  have a0 : e.num * c.den * d.den ≠ 0 := Int.mul_ne_zero (Int.mul_ne_zero en (dn0 c)) (dn0 d)
  obtain ⟨r1, r2⟩ := quad_rat he (p := _) (q := _) rfl rfl
  have m1 := mulOk_of he'.num hc.dn (by omega)
  have m2 := mulOk_of (he'.num.mul hc.dn) hd.dn (by omega)
  have m3 := mulOk_of hd.num hc.dn (by omega)
  have m4 := mulOk_of (hd.num.mul hc.dn) he'.dn (by omega)
  have m5 := mulOk_of hc.num hd.dn (by omega)
  have m6 := mulOk_of (hc.num.mul hd.dn) he'.dn (by omega)
  generalize hA : e.num * c.den * d.den = a at *
  generalize hB : d.num * c.den * e.den = bb at *
  generalize hF : c.num * d.den * e.den = f at *
  have i2 : IS 2 (2 : Int) := show (2 : Int).natAbs < 2 ^ 2 by decide
  have i4 : IS 3 (4 : Int) := show (4 : Int).natAbs < 2 ^ 3 by decide
  have m7 := mulOk_of B B (by omega)
  have m8 := mulOk_of i4 A (by omega)
  have m9 := mulOk_of (i4.mul A) F (by omega)
  have m10 := mulOk_of i2 A (by omega)
  have m11 := mulOk_of (i4.mul A) A (by omega)
  have U : IS (6 * N + 4) (bb * bb - 4 * a * f) := ((B.mul B).mono (n := 6 * N + 3) (by omega)).sub (((i4.mul A).mul F).mono (by omega))
  have V : IS (6 * N + 4) (4 * a * a) := ((i4.mul A).mul A).mono (by omega)
  have v0 : (0 : Int) < 4 * a * a := by
    have : 0 < a * a := by
      rcases Int.lt_trichotomy a 0 with z | z | z
      · exact Int.mul_pos_of_neg_of_neg z z
      · exact absurd z a0
      · exact Int.mul_pos z z
    rw [Int.mul_assoc]
    omega
  have T : IS (3 * N + 2) (2 * a) := (i2.mul A).mono (by omega)
  have t0 : 2 * a ≠ 0 := by omega
  have e1 := G_ratio_eq (w := w) (a := -bb) t0 T (by omega)
  have e2 := G_ratio_eq (w := w) (a := bb * bb - 4 * a * f) (by omega) V (by omega)
  have P : Sz (3 * N + 2) (Rat.divInt (-bb) (2 * a)) := Sz.divInt (B.neg.mono (by omega)) T t0
  have Qz : Sz (6 * N + 4) (Rat.divInt (bb * bb - 4 * a * f) (4 * a * a)) := Sz.divInt U V (by omega)
  have sign := Rat.divInt_nonneg_iff_of_pos_right (a := bb * bb - 4 * a * f) v0
  refine ⟨Rat.divInt (-bb) (2 * a), Rat.divInt (bb * bb - 4 * a * f) (4 * a * a), ?_⟩
  generalize hU : bb * bb - 4 * a * f = u at *
  by_cases c1 : u < 0
  · refine ⟨[], r1, r2, ?_, .inl ⟨?_, rfl⟩⟩
    · simp [G_roots_of, B_roots_of, encB, enc, en, m1, m2, m3, m4, m5, m6, hA, hB, hF, m7, m8, m9, hU, c1]
    · refine Rat.not_le.mp fun z => ?_
      have := sign.mp z
      omega
  · have q0 : 0 ≤ Rat.divInt u (4 * a * a) := sign.mpr (by omega)
    by_cases c2 : u = 0
    · subst c2
      refine ⟨[encS ⟨Rat.divInt (-bb) (2 * a), 0, 0⟩], r1, r2, ?_, .inr ⟨⟨Rat.divInt (-bb) (2 * a), 0, 0⟩, ⟨Rat.divInt (-bb) (2 * a), 0, 0⟩, q0, .inr ⟨rfl, rfl⟩, ?_⟩⟩
      · simp [G_roots_of, B_roots_of, encB, enc, en, m1, m2, m3, m4, m5, m6, hA, hB, hF, m7, m8, m9, hU, m10, e1, G_plain, B_plain]
        rfl
      · have ok : SdOk (6 * N + 5) ⟨Rat.divInt (-bb) (2 * a), 0, 0⟩ := ⟨P.mono (by omega), show (0 : Int).natAbs < 2 ^ 1 by decide, (sz_int (s := 0) (show (0 : Int).natAbs < 2 ^ 1 by decide) (by omega)).mono (by omega), Rat.le_refl⟩
        have v : Sd.val ⟨Rat.divInt (-bb) (2 * a), 0, 0⟩ = io (Rat.divInt (-bb) (2 * a)) := by
          unfold Sd.val
          dsimp only
          rw [rt_zero]
          grind
        rw [Rat.zero_divInt, rt_zero, v]
        exact ⟨ok, ok, by grind, by grind⟩
    · obtain ⟨x, x1, x2, x3⟩ := G_surd_from_eq (w := w) (s := -1) P Qz q0 (.inr rfl) (by omega)
      obtain ⟨y, y1, y2, y3⟩ := G_surd_from_eq (w := w) (s := 1) P Qz q0 (.inl rfl) (by omega)
      refine ⟨[encS x, encS y], r1, r2, ?_, .inr ⟨x, y, q0, .inl rfl, x2, y2, ?_, ?_⟩⟩
      · simp [G_roots_of, B_roots_of, encB, enc, en, m1, m2, m3, m4, m5, m6, hA, hB, hF, m7, m8, m9, hU, m10, m11, c1, c2]
        simp [m10, m11, m8, e1, e2, x1, y1]
      · rw [x3]
        have : ii (-1) = -1 := rfl
        rw [this]
        grind
      · rw [y3, ii_one]
        grind
theorem bv_quad {b : Bt} {p q : Rat} (h1 : b.d = -2 * b.e * p) (h2 : b.c = b.e * (p * p - q)) (t : R) : bv b t = io b.e * ((t - io p) * (t - io p) - io q) := by
  unfold bv
  rw [h1, h2]
  simp only [io_mul, io_sub, io_neg]
  have : io (2 : Rat) = 2 := rfl
  rw [this]
  grind
theorem bv_lin {b : Bt} (h : b.e = 0) (t : R) : bv b t = io b.c + io b.d * t := by
  unfold bv
  rw [h, io_zero]
  grind
theorem neg_mul_nonneg {e x : R} (he : e < 0) : 0 ≤ e * x ↔ x ≤ 0 := by
  constructor
  · intro h
    refine R.not_lt.mp fun z => ?_
    have := R.mul_pos (a := -e) (b := x) (by grind) z
    grind
  · intro h
    have := R.mul_nonneg (a := -e) (b := -x) (by grind) (by grind)
    grind
theorem sq_le {x s : R} (hs : 0 ≤ s) : x * x - s * s ≤ 0 ↔ -s ≤ x ∧ x ≤ s := by
  constructor
  · intro h
    have h1 := R.le_of_sq hs (x := x) (by grind)
    have h2 := R.le_of_sq hs (x := -x) (by grind)
    constructor <;> grind
  · rintro ⟨h1, h2⟩
    have := R.mul_nonneg (a := s - x) (b := s + x) (by grind) (by grind)
    grind
theorem num_pos {r : Rat} : 0 < r.num ↔ 0 < r := by
  rw [Rat.lt_iff]
  simp
theorem num_eq {r : Rat} : r.num = 0 ↔ r = 0 := Rat.num_eq_zero
theorem G_kept_eq {N : Nat} {b : Bt} {w : W} (hb : BtOk N b) (he : b.e ≤ 0) (hN : 6 * N + 5 ≤ 8990) : ∃ r, G_kept_side [encB b] w = some (r, w) ∧ IsSpan (6 * N + 5) r fun t => 0 ≤ bv b t := by
  by_cases e0 : b.e = 0
  · by_cases d0 : b.d = 0
    · have val : ∀ t, bv b t = io b.c := fun t => by
        rw [bv_lin e0, d0, io_zero]
        grind
      by_cases c0 : 0 ≤ b.c.num
      · have c1 : 0 ≤ b.c := Rat.num_nonneg.mp c0
        refine ⟨.tup [.non, .non], ?_, .inr ⟨_, _, none, none, rfl, .inl ⟨rfl, rfl⟩, .inl ⟨rfl, rfl⟩, fun _ _ z => (nomatch z), fun t => ?_⟩⟩
        · simp [G_kept_side, B_kept_side, encB, enc, e0, d0, c0]
        · show 0 ≤ bv b t ↔ _
          rw [val]
          constructor
          · exact fun _ => And.intro (fun _ z => (nomatch z)) (fun _ z => (nomatch z))
          · exact fun _ => io_le.mpr c1
      · have c1 : ¬ 0 ≤ b.c := fun z => c0 (Rat.num_nonneg.mpr z)
        refine ⟨.non, ?_, .inl ⟨rfl, fun t z => ?_⟩⟩
        · simp [G_kept_side, B_kept_side, encB, enc, e0, d0, c0]
        · have z : 0 ≤ bv b t := z
          rw [val] at z
          exact c1 (io_le.mp z)
    · obtain ⟨x, h1, h2, h3⟩ := G_roots_lin (w := w) hb e0 d0 hN
      have dn := num0 d0
      have root : b.c = -(b.d * (-b.c / b.d)) := by grind
      have val : ∀ t, bv b t = io b.d * (t - x.val) := fun t => by
        rw [bv_lin e0, h3]
        conv => lhs; rw [root]
        rw [io_neg, io_mul]
        grind
      by_cases c0 : 0 < b.d.num
      · have c1 := io_pos (num_pos.mp c0)
        refine ⟨.tup [encS x, .non], ?_, .inr ⟨_, _, some x.val, none, rfl, .inr ⟨x, rfl, h2, rfl⟩, .inl ⟨rfl, rfl⟩, fun _ _ _ z => (nomatch z), fun t => ?_⟩⟩
        · unfold encB enc at h1
          simp [G_kept_side, B_kept_side, encB, enc, e0, dn, c0]
          simp [e0] at h1
          simp [h1, c0]
        · show 0 ≤ bv b t ↔ _
          rw [val]
          constructor
          · refine fun h => And.intro (fun y z => ?_) (fun _ z => (nomatch z))
            cases z
            refine R.not_lt.mp fun z => ?_
            have := R.mul_pos c1 (b := x.val - t) (by grind)
            grind
          · intro h
            have := h.1 _ rfl
            exact R.mul_nonneg (by grind) (by grind)
      · have c1 : 0 < io (-b.d) := io_pos (by
          have : ¬ 0 < b.d := fun z => c0 (num_pos.mpr z)
          grind)
        rw [io_neg] at c1
        refine ⟨.tup [.non, encS x], ?_, .inr ⟨_, _, none, some x.val, rfl, .inl ⟨rfl, rfl⟩, .inr ⟨x, rfl, h2, rfl⟩, fun _ _ z => (nomatch z), fun t => ?_⟩⟩
        · unfold encB enc at h1
          simp [G_kept_side, B_kept_side, encB, enc, e0, dn, c0]
          simp [e0] at h1
          simp [h1, c0]
        · show 0 ≤ bv b t ↔ _
          rw [val]
          constructor
          · refine fun h => And.intro (fun _ z => (nomatch z)) (fun y z => ?_)
            cases z
            refine R.not_lt.mp fun z => ?_
            have := R.mul_pos c1 (b := t - x.val) (by grind)
            grind
          · intro h
            have := h.2 _ rfl
            have := R.mul_nonneg (a := -io b.d) (b := x.val - t) (by grind) (by grind)
            grind
  · obtain ⟨p, q, l, r1, r2, h1, h2⟩ := G_roots_quad (w := w) hb e0 hN
    have en := num0 e0
    have e1 : io b.e < 0 := by
      have := io_pos (r := -b.e) (by grind)
      rw [io_neg] at this
      grind
    have h1' := h1
    rcases h2 with ⟨q0, rfl⟩ | ⟨x, y, q0, hl, x2, y2, xv, yv⟩
    · refine ⟨.non, ?_, .inl ⟨rfl, fun t z => ?_⟩⟩
      · unfold encB enc at h1
        by_cases d0 : b.d.num = 0
        · simp [G_kept_side, B_kept_side, encB, enc, en, d0]
          simp [d0] at h1
          simp [h1, e0]
        · simp [G_kept_side, B_kept_side, encB, enc, en, d0, h1]
      · have z : 0 ≤ bv b t := z
        rw [bv_quad r1 r2, neg_mul_nonneg e1] at z
        have z1 := R.sq_nonneg (t - io p)
        have z2 := io_pos (r := -q) (by grind)
        rw [io_neg] at z2
        grind
    · refine ⟨.tup [encS x, encS y], ?_, .inr ⟨_, _, some x.val, some y.val, rfl, .inr ⟨x, rfl, x2, rfl⟩, .inr ⟨y, rfl, y2, rfl⟩, fun p q z1 z2 => ?_, fun t => ?_⟩⟩
      · unfold encB enc at h1
        rcases hl with rfl | ⟨rfl, rfl⟩
        · by_cases d0 : b.d.num = 0
          · simp [G_kept_side, B_kept_side, encB, enc, en, d0]
            simp [d0] at h1
            simp [h1, e0, dat_encS]
          · simp [G_kept_side, B_kept_side, encB, enc, en, d0, h1, dat_encS]
        · by_cases d0 : b.d.num = 0
          · simp [G_kept_side, B_kept_side, encB, enc, en, d0]
            simp [d0] at h1
            simp [h1, e0, dat_encS]
          · simp [G_kept_side, B_kept_side, encB, enc, en, d0, h1, dat_encS]
      · cases z1
        cases z2
        have := rt_nonneg q
        grind
      · show 0 ≤ bv b t ↔ _
        rw [bv_quad r1 r2, neg_mul_nonneg e1, ← rt_sq q0, sq_le (rt_nonneg q)]
        constructor
        · rintro ⟨z1, z2⟩
          exact And.intro (fun _ k => by cases k; grind) (fun _ k => by cases k; grind)
        · intro h
          have z1 := h.1 _ rfl
          have z2 := h.2 _ rfl
          constructor <;> grind
end
end Sp
/-! SP 3: the stretch below a line. -/
namespace Sp
noncomputable section
def encR : Option Rat → A
  | none => .non
  | some r => enc r
structure Part where
  lo : Option Rat
  hi : Option Rat
  b : Bt
def encP (p : Part) : A := .tup [encR p.lo, encR p.hi, encB p.b]
def Part.at (p : Part) (t : R) : Prop := inI (p.lo.map io) (p.hi.map io) t
structure PartOk (n : Nat) (p : Part) : Prop where
  lo : ∀ r, p.lo = some r → Sz n r
  hi : ∀ r, p.hi = some r → Sz n r
  b : BtOk n p.b
  e : 0 ≤ p.b.e
  le : ∀ r s, p.lo = some r → p.hi = some s → r ≤ s
/-- the pieces make up the bound Bd -/
structure Pieces (ps : List Part) (Bd : R → R → Prop) : Prop where
  eq : ∀ p ∈ ps, ∀ t, p.at t → ∀ y, (Bd t y ↔ bv p.b t ≤ y)
  cov : ∀ t, ∃ p ∈ ps, p.at t
def Bt.sub (u b : Bt) : Bt := ⟨u.c - b.c, u.d - b.d, u.e - b.e⟩
theorem bv_sub (u b : Bt) (t : R) : bv (u.sub b) t = bv u t - bv b t := by
  unfold bv Bt.sub
  dsimp only
  rw [io_sub, io_sub, io_sub]
  grind
theorem enc_neg (r : Rat) : (A.tup [.int (-r.num), .int r.den]) = enc (-r) := by
  unfold enc
  rw [Rat.neg_num, Rat.neg_den]
theorem G_bent_less_eq {n : Nat} {u b : Bt} {w : W} (hu : BtOk n u) (hb : BtOk n b) (hn : n ≤ 4000) : G_bent_less [encB u, encB b] w = some (encB (u.sub b), w) ∧ BtOk (2 * n + 1) (u.sub b) := by
  refine ⟨?_, ⟨(hu.c.sub hb.c).mono (by omega), (hu.d.sub hb.d).mono (by omega), (hu.e.sub hb.e).mono (by omega)⟩⟩
  have e1 := G_ratio_sum_eq (w := w) hu.c hb.c.neg (by omega)
  have e2 := G_ratio_sum_eq (w := w) hu.d hb.d.neg (by omega)
  have e3 := G_ratio_sum_eq (w := w) hu.e hb.e.neg (by omega)
  rw [← Rat.sub_eq_add_neg] at e1 e2 e3
  have f1 : ∀ r : Rat, A.ix [.int r.num, .int r.den] 0 = some (.int r.num) := fun _ => rfl
  have g : ∀ r : Rat, fIx (enc r) (.int 0) = some (.int r.num) ∧ fIx (enc r) (.int 1) = some (.int r.den) := fun r => ⟨rfl, rfl⟩
  simp [G_bent_less, B_bent_less, encB, -fIx, g, enc_neg, e1, e2, e3, Bt.sub]
theorem G_as_surd_eq {n : Nat} {o : Option Rat} {w : W} (h : ∀ r, o = some r → Sz n r) (hn : 1 ≤ n) : ∃ c, G_as_surd [encR o] w = some (c, w) ∧ IsEnd n c (o.map io) := by
  cases o with
  | none => exact ⟨.non, by simp [G_as_surd, B_as_surd, encR], .inl ⟨rfl, rfl⟩⟩
  | some r =>
    have nn : fIsN (enc r) = some (.bl false) := rfl
    refine ⟨encS ⟨r, 0, 0⟩, ?_, .inr ⟨⟨r, 0, 0⟩, rfl, ⟨h r rfl, show (0 : Int).natAbs < 2 ^ 1 by decide, (sz_int (s := 0) (show (0 : Int).natAbs < 2 ^ 1 by decide) (by omega)).mono hn, Rat.le_refl⟩, ?_⟩⟩
    · simp [G_as_surd, B_as_surd, encR, -fIsN, nn, G_plain, B_plain]
      rfl
    · unfold Sd.val
      dsimp only
      rw [rt_zero, ii_zero]
      show some (io r) = _
      congr 1
      grind
def bsB : GS := xSeq (xAsg (xCall G_met (xConsA (xCall G_kept_side (xConsA (xCall G_bent_less (xConsA (xVar 1) (xConsA (xVar 5) (xNilA)))) (xNilA))) (xConsA (xTup (xConsA (xCall G_as_surd (xConsA (xVar 3) (xNilA))) (xConsA (xCall G_as_surd (xConsA (xVar 4) (xNilA))) (xNilA)))) (xNilA)))) (xName 6))
  (xAsg (xCall G_spread (xConsA (xVar 2) (xConsA (xVar 6) (xNilA)))) (xName 2))
def Cvx (U : R → Prop) : Prop := ∀ a b t, U a → U b → a ≤ t → t ≤ b → U t
theorem below_walk {u : Bt} {Bd : R → R → Prop} (hu : BtOk 740 u) (ue : u.e = 0) (a0 : A) (w : W) (cv : Cvx fun t => Bd t (bv u t)) : ∀ (ps : List Part) (c : A) (V : R → Prop) (s3 s4 s5 s6 : Option A), (∀ p ∈ ps, PartOk 740 p) → (∀ p ∈ ps, ∀ t, p.at t → ∀ y, (Bd t y ↔ bv p.b t ≤ y)) → IsSpan 8891 c V → (∀ t, V t → Bd t (bv u t)) →
    ∃ c' V' z3 z4 z5 z6, forLoop (xTupG (xConsG (xName 3) (xConsG (xName 4) (xConsG (xName 5) (xNilG))))) bsB (ps.map encP) [some a0, some (encB u), some c, s3, s4, s5, s6] w = some (.nx [some a0, some (encB u), some c', z3, z4, z5, z6] w) ∧ IsSpan 8891 c' V' ∧ (∀ t, V' t → Bd t (bv u t)) ∧ (∀ t, V t → V' t) ∧ ∀ p ∈ ps, ∀ t, p.at t → Bd t (bv u t) → V' t := by
  intro ps
  induction ps with
  | nil => exact fun c V s3 s4 s5 s6 _ _ hc hv => ⟨c, V, s3, s4, s5, s6, by simp, hc, hv, fun _ h => h, fun _ h => nomatch h⟩
  | cons p ps ih =>
    intro c V s3 s4 s5 s6 hok heq hc hv
    have ok := hok p List.mem_cons_self
    have eq := heq p List.mem_cons_self
    obtain ⟨e1, k1⟩ := G_bent_less_eq (w := w) hu ok.b (by omega)
    obtain ⟨r, e2, k2⟩ := G_kept_eq (w := w) k1 (by show u.e - p.b.e ≤ 0; rw [ue]; have := ok.e; grind) (by omega)
    obtain ⟨lo, e3, k3⟩ := G_as_surd_eq (n := 8891) (w := w) (o := p.lo) (fun r h => (ok.lo r h).mono (by omega)) (by omega)
    obtain ⟨hi, e4, k4⟩ := G_as_surd_eq (n := 8891) (w := w) (o := p.hi) (fun r h => (ok.hi r h).mono (by omega)) (by omega)
    have k5 : IsSpan 8891 (.tup [lo, hi]) p.at := .inr ⟨lo, hi, _, _, rfl, k3, k4, fun x y hx hy => by
      cases hl : p.lo with
      | none =>
        rw [hl] at hx
        cases hx
      | some r =>
        cases hh : p.hi with
        | none =>
          rw [hh] at hy
          cases hy
        | some s =>
          rw [hl] at hx
          rw [hh] at hy
          cases hx
          cases hy
          exact io_le.mpr (ok.le r s hl hh), fun t => Iff.rfl⟩
    obtain ⟨m, e5, k6⟩ := G_met_eq (w := w) (k2 : IsSpan 8891 r _) k5 (by omega)
    obtain ⟨c2, V2, e6, k7, k8, k9⟩ := G_spread_eq (w := w) hc k6 (by omega)
    have piece : ∀ t, (0 ≤ bv (u.sub p.b) t ∧ p.at t) ↔ (p.at t ∧ Bd t (bv u t)) := fun t => by
      constructor
      · rintro ⟨h1, h2⟩
        refine ⟨h2, (eq t h2 _).mpr ?_⟩
        rw [bv_sub] at h1
        grind
      · rintro ⟨h1, h2⟩
        refine ⟨?_, h1⟩
        have := (eq t h1 _).mp h2
        rw [bv_sub]
        grind
    have sub : ∀ t, V2 t → Bd t (bv u t) := fun t h => by
      obtain ⟨⟨p1, h1, h2⟩, p2, h3, h4⟩ := k9 t h
      have inU : ∀ q, (V q ∨ (0 ≤ bv (u.sub p.b) q ∧ p.at q)) → Bd q (bv u q) := fun q hq => by
        rcases hq with hq | hq
        · exact hv q hq
        · exact ((piece q).mp hq).2
      exact cv p1 p2 t (inU p1 h1) (inU p2 h3) h2 h4
    obtain ⟨c', V', z3, z4, z5, z6, f1, f2, f3, f4, f5⟩ := ih c2 V2 (some (encR p.lo)) (some (encR p.hi)) (some (encB p.b)) (some m) (fun q h => hok q (List.mem_cons_of_mem _ h)) (fun q h => heq q (List.mem_cons_of_mem _ h)) k7 sub
    refine ⟨c', V', z3, z4, z5, z6, ?_, f2, f3, fun t h => f4 t (k8 t (.inl h)), fun q hq t h1 h2 => ?_⟩
    · rw [List.map_cons]
      conv => lhs; unfold forLoop
      have st : (xTupG (xConsG (xName 3) (xConsG (xName 4) (xConsG (xName 5) (xNilG))))) (encP p) [some a0, some (encB u), some c, s3, s4, s5, s6] = some [some a0, some (encB u), some c, some (encR p.lo), some (encR p.hi), some (encB p.b), s6] := rfl
      have bd : bsB [some a0, some (encB u), some c, some (encR p.lo), some (encR p.hi), some (encB p.b), s6] w = some (.nx [some a0, some (encB u), some c2, some (encR p.lo), some (encR p.hi), some (encB p.b), some m] w) := by
        simp [bsB, e1, e2, e3, e4, e5, e6]
      rw [st]
      dsimp only [Option.bind_some]
      rw [bd]
      exact f1
    · rcases List.mem_cons.mp hq with rfl | hq
      · exact f4 t (k8 t (.inr ((piece t).mpr ⟨h1, h2⟩)))
      · exact f5 q hq t h1 h2
theorem G_below_eq {u : Bt} {Bd : R → R → Prop} {ps : List Part} {w : W} (hu : BtOk 740 u) (ue : u.e = 0) (cv : Cvx fun t => Bd t (bv u t)) (hp : Pieces ps Bd) (ok : ∀ p ∈ ps, PartOk 740 p) : ∃ c, G_below_stretch [.lst (ps.map encP), encB u] w = some (c, w) ∧ IsSpan 8891 c fun t => Bd t (bv u t) := by
  obtain ⟨c', V', z3, z4, z5, z6, f1, f2, f3, f4, f5⟩ := below_walk hu ue (.lst (ps.map encP)) w cv ps .non (fun _ => False) none none none none ok hp.eq (.inl ⟨rfl, fun _ h => h⟩) (fun _ h => h.elim)
  refine ⟨c', ?_, f2.iff fun t => ⟨f3 t, fun h => ?_⟩⟩
  · have e : xFor (yLst (xVar 0)) (xTupG (xConsG (xName 3) (xConsG (xName 4) (xConsG (xName 5) (xNilG))))) bsB [some (.lst (ps.map encP)), some (encB u), some .non, none, none, none, none] w = some (.nx [some (.lst (ps.map encP)), some (encB u), some c', z3, z4, z5, z6] w) := f1
    unfold G_below_stretch
    refine (xDef_eq (n := 2) (as := [_, _]) rfl).trans ?_
    show xDef.xRun (xSeq (xAsg (xC .non) (xName 2)) (xSeq (xFor (yLst (xVar 0)) (xTupG (xConsG (xName 3) (xConsG (xName 4) (xConsG (xName 5) (xNilG))))) bsB) (xRet (xVar 2))) _ w) = _
    simp [-xFor, e]
  · obtain ⟨p, hp1, hp2⟩ := hp.cov t
    exact f5 p hp1 t hp2 h
end
end Sp
/-! GE 1: asks, their bounds as families of lines, their pieces. -/
namespace Sp
noncomputable section
/-- a place: three whole numbers, and where it is -/
structure Pl where
  p : Int
  q : Int
  r : Int
  x : Rat
  y : Rat
structure PlOk (a : Pl) : Prop where
  r0 : 0 < a.r
  hx : Rat.divInt a.p a.r = a.x
  hy : Rat.divInt a.q a.r = a.y
  xp : 0 < a.x
  sx : Sz 40 a.x
  sy : Sz 40 a.y
  ip : IS 81 a.p
  iq : IS 81 a.q
  ir : IS 81 a.r
  red : gcdAll [a.p, a.q, a.r] = 1
inductive Ask where
  | over (a : Pl)
  | under (a : Pl)
  | roof (a b : Pl)
  | low (h : Rat)
  | dives (x s : Rat)
  | climbs (x s : Rat)
  | quick (k : Rat)
  | slow (k : Rat)
def encPl (a : Pl) : A := .tup [.int a.p, .int a.q, .int a.r]
def encAsk : Ask → A
  | .over a => .tup [.str "over", encPl a]
  | .under a => .tup [.str "under", encPl a]
  | .roof a b => .tup [.str "roof", encPl a, encPl b]
  | .low h => .tup [.str "low", enc h]
  | .dives x s => .tup [.str "dives", enc x, enc s]
  | .climbs x s => .tup [.str "climbs", enc x, enc s]
  | .quick k => .tup [.str "quick", enc k]
  | .slow k => .tup [.str "slow", enc k]
def AskOk : Ask → Prop
  | .over a => PlOk a
  | .under a => PlOk a
  | .roof a b => PlOk a ∧ PlOk b ∧ a.x < b.x
  | .low h => Sz 40 h ∧ 0 < h
  | .dives x s => Sz 40 x ∧ Sz 40 s ∧ 0 ≤ x
  | .climbs x s => Sz 40 x ∧ Sz 40 s ∧ 0 ≤ x
  | .quick k => Sz 40 k ∧ 0 < k
  | .slow k => Sz 40 k ∧ 0 < k
/-- X = 0: it asks the slope itself -/
def Ask.steep : Ask → Bool
  | .dives x _ => decide (x = 0)
  | .climbs x _ => decide (x = 0)
  | _ => false
def Ask.least : Ask → Bool
  | .under _ => true
  | .roof _ _ => true
  | .low _ => true
  | .dives _ _ => true
  | .slow _ => true
  | _ => false
def lineB (x y : Rat) : Bt := ⟨-(y / (x * x)), 1 / x, 0⟩
def roofM (x1 y1 x2 y2 : Rat) : Rat := (y2 - y1) / (x2 - x1)
def roofK (x1 y1 x2 y2 : Rat) : Rat := y1 - roofM x1 y1 x2 y2 * x1
def roofParts (x1 y1 x2 y2 : Rat) : List Part :=
  let m := roofM x1 y1 x2 y2
  let k := roofK x1 y1 x2 y2
  if k ≤ 0 then
    [⟨none, some (m + (k / x1 + k / x2)), lineB x2 y2⟩, ⟨some (m + (k / x1 + k / x2)), none, lineB x1 y1⟩]
  else
    [⟨none, some (m + 2 * k / x2), lineB x2 y2⟩, ⟨some (m + 2 * k / x2), some (m + 2 * k / x1), ⟨1 / (4 * k) * (m * m), -(2 * m) * (1 / (4 * k)), 1 / (4 * k)⟩⟩, ⟨some (m + 2 * k / x1), none, lineB x1 y1⟩]
def Ask.parts : Ask → List Part
  | .over a => [⟨none, none, lineB a.x a.y⟩]
  | .under a => [⟨none, none, lineB a.x a.y⟩]
  | .roof a b => roofParts a.x a.y b.x b.y
  | .low h => [⟨none, some 0, ⟨0, 0, 0⟩⟩, ⟨some 0, none, ⟨0, 0, 1 / (4 * h)⟩⟩]
  | .dives x s => [⟨none, none, ⟨-(1 / (2 * x) * s), 1 / (2 * x), 0⟩⟩]
  | .climbs x s => [⟨none, none, ⟨-(1 / (2 * x) * s), 1 / (2 * x), 0⟩⟩]
  | .quick k => [⟨none, none, ⟨k, 0, 0⟩⟩]
  | .slow k => [⟨none, none, ⟨k, 0, 0⟩⟩]
/-! ### families of lines p + q t -/
def Bd (F : R → R → Prop) (t y : R) : Prop := ∀ p q, F p q → p + q * t ≤ y
def famB (b : Bt) : R → R → Prop := fun p q => p = io b.c ∧ q = io b.d
def famLow (w : Rat) : R → R → Prop := fun p q => ∃ s, 0 ≤ s ∧ p = -(io w * (s * s)) ∧ q = 2 * io w * s
def famHead (w : Rat) : R → R → Prop := fun p q => ∃ s, p = io w - io w * (s * s) ∧ q = 2 * io w * s
def famRoof (m k x1 x2 : Rat) : R → R → Prop := fun p q => ∃ u, io (1 / x2) ≤ u ∧ u ≤ io (1 / x1) ∧ q = u ∧ p = -(io m * u) - io k * (u * u)
theorem cvx_Bd {F : R → R → Prop} {u : Bt} (ue : u.e = 0) : Cvx fun t => Bd F t (bv u t) := by
  intro a b t ha hb h1 h2 p q hF
  have e1 := ha p q hF
  have e2 := hb p q hF
  rw [bv_lin ue] at *
  have f1 : p + q * a ≤ io u.c + io u.d * a := e1
  have f2 : p + q * b ≤ io u.c + io u.d * b := e2
  rcases Std.le_total (a := io u.d) (b := q) with z | z
  · have := R.mul_nonneg (a := q - io u.d) (b := b - t) (by grind) (by grind)
    grind
  · have := R.mul_nonneg (a := io u.d - q) (b := t - a) (by grind) (by grind)
    grind
theorem at_none (b : Bt) (t : R) : Part.at ⟨none, none, b⟩ t := And.intro (fun _ z => (nomatch z)) (fun _ z => (nomatch z))
theorem pieces_line {b : Bt} (he : b.e = 0) : Pieces [⟨none, none, b⟩] (Bd (famB b)) := by
  refine ⟨fun p hp t ht y => ?_, fun t => ⟨_, List.mem_singleton.mpr rfl, at_none b t⟩⟩
  rw [List.mem_singleton.mp hp]
  show _ ↔ bv b t ≤ y
  rw [bv_lin he]
  constructor
  · exact fun h => h _ _ ⟨rfl, rfl⟩
  · rintro h p q ⟨rfl, rfl⟩
    exact h
theorem pieces_head {w : Rat} (hw : 0 < w) : Pieces [⟨none, none, ⟨w, 0, w⟩⟩] (Bd (famHead w)) := by
  refine ⟨fun p hp t ht y => ?_, fun t => ⟨_, List.mem_singleton.mpr rfl, at_none _ t⟩⟩
  rw [List.mem_singleton.mp hp]
  unfold bv
  dsimp only
  rw [io_zero]
  have w0 := io_pos hw
  constructor
  · intro h
    have := h _ _ ⟨t, rfl, rfl⟩
    grind
  · rintro h p q ⟨s, rfl, rfl⟩
    have h1 := R.mul_nonneg (a := io w) (by grind) (R.sq_nonneg (t - s))
    grind
theorem pieces_low {w : Rat} (hw : 0 < w) : Pieces [⟨none, some 0, ⟨0, 0, 0⟩⟩, ⟨some 0, none, ⟨0, 0, w⟩⟩] (Bd (famLow w)) := by
  have w0 := io_pos hw
  refine ⟨fun p hp t ht y => ?_, fun t => ?_⟩
  · rcases List.mem_cons.mp hp with rfl | hp
    · have t0 : t ≤ 0 := ht.2 _ rfl
      unfold bv
      dsimp only
      rw [io_zero]
      constructor
      · intro h
        have := h _ _ ⟨0, Std.le_refl _, rfl, rfl⟩
        grind
      · rintro h p q ⟨s, s0, rfl, rfl⟩
        have h1 := R.mul_nonneg (a := io w) (by grind) (R.sq_nonneg s)
        have h2 := R.mul_nonneg (a := io w) (b := s * -t) (by grind) (R.mul_nonneg s0 (by grind))
        grind
    · rw [List.mem_singleton.mp hp] at ht ⊢
      have t0 : 0 ≤ t := ht.1 _ rfl
      unfold bv
      dsimp only
      rw [io_zero]
      constructor
      · intro h
        have := h _ _ ⟨t, t0, rfl, rfl⟩
        grind
      · rintro h p q ⟨s, s0, rfl, rfl⟩
        have h1 := R.mul_nonneg (a := io w) (by grind) (R.sq_nonneg (t - s))
        grind
  · rcases Std.le_total (a := t) (b := 0) with z | z
    · exact ⟨_, List.mem_cons_self, And.intro (fun _ z => (nomatch z)) (fun _ q => by cases q; exact z)⟩
    · exact ⟨_, List.mem_cons_of_mem _ List.mem_cons_self, And.intro (fun _ q => by cases q; exact z) (fun _ z => (nomatch z))⟩
theorem lineB_val {m k x y : Rat} (hx : x ≠ 0) (hy : y = k + m * x) (t : R) : bv (lineB x y) t = (t - io m) * io (1 / x) - io k * (io (1 / x) * io (1 / x)) := by
  rw [bv_lin rfl]
  unfold lineB
  dsimp only
  have e : -(y / (x * x)) = -(m * (1 / x)) - k * (1 / x * (1 / x)) := by grind
  rw [e, io_sub, io_neg, io_mul, io_mul, io_mul]
  grind
theorem pieces_roof {x1 y1 x2 y2 : Rat} (h1 : 0 < x1) (h2 : x1 < x2) : Pieces (roofParts x1 y1 x2 y2) (Bd (famRoof (roofM x1 y1 x2 y2) (roofK x1 y1 x2 y2) x1 x2)) := by
  have l1 : y1 = roofK x1 y1 x2 y2 + roofM x1 y1 x2 y2 * x1 := by
    unfold roofK
    grind
  have l2 : y2 = roofK x1 y1 x2 y2 + roofM x1 y1 x2 y2 * x2 := by
    unfold roofK roofM
    grind
  unfold roofParts
  generalize roofM x1 y1 x2 y2 = m at *
  generalize roofK x1 y1 x2 y2 = k at *
  have nx1 : x1 ≠ 0 := by grind
  have nx2 : x2 ≠ 0 := by grind
  have b1 := lineB_val (m := m) (k := k) nx1 l1
  have b2 := lineB_val (m := m) (k := k) nx2 l2
  have inv : 1 / x2 < 1 / x1 := by
    rw [Rat.div_def, Rat.div_def]
    have p1 := Rat.inv_pos.mpr h1
    have p2 := Rat.inv_pos.mpr (show 0 < x2 by grind)
    have q1 := Rat.mul_inv_cancel x1 nx1
    have q2 := Rat.mul_inv_cancel x2 nx2
    have z := Rat.mul_lt_mul_of_pos_right h2 (Rat.mul_pos p1 p2)
    have e1 : x1 * (x1⁻¹ * x2⁻¹) = x2⁻¹ := by grind
    have e2 : x2 * (x1⁻¹ * x2⁻¹) = x1⁻¹ := by grind
    rw [e1, e2] at z
    grind
  have U : io (1 / x2) < io (1 / x1) := io_lt.mpr inv
  have q1 : io (k / x1) = io k * io (1 / x1) := by
    rw [← io_mul]
    congr 1
    grind
  have q2 : io (k / x2) = io k * io (1 / x2) := by
    rw [← io_mul]
    congr 1
    grind
  have BdI : ∀ t y, Bd (famRoof m k x1 x2) t y ↔ ∀ u, io (1 / x2) ≤ u → u ≤ io (1 / x1) → -(io m * u) - io k * (u * u) + u * t ≤ y := fun t y => by
    constructor
    · intro h u a b
      exact h _ _ ⟨u, a, b, rfl, rfl⟩
    · rintro h p q ⟨u, a, b, rfl, rfl⟩
      exact h _ a b
  by_cases hk : k ≤ 0
  · simp only [if_pos hk]
    have hk' : io k ≤ 0 := io_le (b := 0) |>.mpr hk
    have J : io (m + (k / x1 + k / x2)) = io m + io k * io (1 / x1) + io k * io (1 / x2) := by
      rw [io_add, io_add, q1, q2]
      grind
    generalize m + (k / x1 + k / x2) = j at *
    generalize io (1 / x1) = u1 at *
    generalize io (1 / x2) = u2 at *
    refine ⟨fun p hp t ht y => ?_, fun t => ?_⟩
    · rcases List.mem_cons.mp hp with rfl | hp
      · have t0 : t ≤ io j := ht.2 _ rfl
        rw [BdI, b2]
        constructor
        · intro h
          have := h u2 (Std.le_refl _) (by grind)
          grind
        · intro h u a b
          have z1 := R.mul_nonneg (a := -io k) (b := u1 - u) (by grind) (by grind)
          have z2 := R.mul_nonneg (a := u - u2) (b := io k * u2 + io k * u - (t - io m)) (by grind) (by grind)
          grind
      · rw [List.mem_singleton.mp hp] at ht ⊢
        have t0 : io j ≤ t := ht.1 _ rfl
        rw [BdI, b1]
        constructor
        · intro h
          have := h u1 (by grind) (Std.le_refl _)
          grind
        · intro h u a b
          have z1 := R.mul_nonneg (a := -io k) (b := u - u2) (by grind) (by grind)
          have z2 := R.mul_nonneg (a := u1 - u) (b := (t - io m) - io k * u1 - io k * u) (by grind) (by grind)
          grind
    · rcases Std.le_total (a := t) (b := io j) with z | z
      · exact ⟨_, List.mem_cons_self, And.intro (fun _ z => (nomatch z)) (fun _ q => by cases q; exact z)⟩
      · exact ⟨_, List.mem_cons_of_mem _ List.mem_cons_self, And.intro (fun _ q => by cases q; exact z) (fun _ z => (nomatch z))⟩
  · simp only [if_neg hk]
    have k0 : 0 < k := by grind
    have hk' : 0 < io k := io_pos k0
    have d1 : io (m + 2 * k / x1) = io m + 2 * (io k * io (1 / x1)) := by
      rw [io_add, show 2 * k / x1 = 2 * (k * (1 / x1)) by grind, io_mul, io_mul]
      rfl
    have d2 : io (m + 2 * k / x2) = io m + 2 * (io k * io (1 / x2)) := by
      rw [io_add, show 2 * k / x2 = 2 * (k * (1 / x2)) by grind, io_mul, io_mul]
      rfl
    have w4 : 4 * (io k * io (1 / (4 * k))) = 1 := by
      have e : (4 : Rat) * (k * (1 / (4 * k))) = 1 := by
        have : k ≠ 0 := by grind
        grind
      have e2 : io (4 * (k * (1 / (4 * k)))) = 1 := by rw [e]; rfl
      rw [io_mul, io_mul] at e2
      exact e2
    have bm : ∀ t, bv ⟨1 / (4 * k) * (m * m), -(2 * m) * (1 / (4 * k)), 1 / (4 * k)⟩ t = io (1 / (4 * k)) * ((t - io m) * (t - io m)) := fun t => by
      unfold bv
      dsimp only
      rw [io_mul, io_mul, io_mul, io_neg, io_mul]
      have : io 2 = 2 := rfl
      rw [this]
      grind
    have w0 : 0 < io (1 / (4 * k)) := by
      refine io_pos ?_
      rw [Rat.div_def]
      have := Rat.inv_pos.mpr (show 0 < 4 * k by grind)
      grind
    generalize m + 2 * k / x1 = j1 at *
    generalize m + 2 * k / x2 = j2 at *
    generalize io (1 / x1) = u1 at *
    generalize io (1 / x2) = u2 at *
    refine ⟨fun p hp t ht y => ?_, fun t => ?_⟩
    · rcases List.mem_cons.mp hp with rfl | hp
      · have t0 : t ≤ io j2 := ht.2 _ rfl
        rw [BdI, b2]
        constructor
        · intro h
          have := h u2 (Std.le_refl _) (by grind)
          grind
        · intro h u a b
          have z1 := R.mul_nonneg (a := io k) (b := u - u2) (by grind) (by grind)
          have z2 := R.mul_nonneg (a := u - u2) (b := io k * u2 + io k * u - (t - io m)) (by grind) (by grind)
          grind
      · rcases List.mem_cons.mp hp with rfl | hp
        · have t1 : io j2 ≤ t := ht.1 _ rfl
          have t2 : t ≤ io j1 := ht.2 _ rfl
          rw [BdI, bm]
          generalize hw : io (1 / (4 * k)) = W at *
          constructor
          · intro h
            -- the point u = (t - m) / (2 k)
            have e : 2 * (io k * (2 * W * (t - io m))) = t - io m := by
              have e1 : 2 * (io k * (2 * W * (t - io m))) = 4 * (io k * W) * (t - io m) := by grind
              rw [e1, w4]
              grind
            have lo : u2 ≤ 2 * W * (t - io m) := by
              refine R.not_lt.mp fun z => ?_
              have := R.mul_pos (a := io k) (b := u2 - 2 * W * (t - io m)) hk' (by grind)
              have e3 : io k * (u2 - 2 * W * (t - io m)) = io k * u2 - io k * (2 * W * (t - io m)) := by grind
              rw [e3] at this
              generalize io k * (2 * W * (t - io m)) = g at *
              grind
            have hi : 2 * W * (t - io m) ≤ u1 := by
              refine R.not_lt.mp fun z => ?_
              have := R.mul_pos (a := io k) (b := 2 * W * (t - io m) - u1) hk' (by grind)
              have e3 : io k * (2 * W * (t - io m) - u1) = io k * (2 * W * (t - io m)) - io k * u1 := by grind
              rw [e3] at this
              generalize io k * (2 * W * (t - io m)) = g at *
              grind
            have f := h _ lo hi
            have e5 : -(io m * (2 * W * (t - io m))) - io k * (2 * W * (t - io m) * (2 * W * (t - io m))) + 2 * W * (t - io m) * t = 2 * (W * ((t - io m) * (t - io m))) - (4 * (io k * W)) * (W * ((t - io m) * (t - io m))) := by grind
            rw [e5, w4] at f
            grind
          · intro h u a b
            have z1 := R.mul_nonneg (a := W) (by grind) (R.sq_nonneg (t - io m - 2 * io k * u))
            have e5 : W * ((t - io m - 2 * io k * u) * (t - io m - 2 * io k * u)) = W * ((t - io m) * (t - io m)) - (4 * (io k * W)) * ((t - io m) * u) + (4 * (io k * W)) * (io k * (u * u)) := by grind
            rw [e5, w4] at z1
            grind
        · rw [List.mem_singleton.mp hp] at ht ⊢
          have t0 : io j1 ≤ t := ht.1 _ rfl
          rw [BdI, b1]
          constructor
          · intro h
            have := h u1 (by grind) (Std.le_refl _)
            grind
          · intro h u a b
            have z1 := R.mul_nonneg (a := io k) (b := u1 - u) (by grind) (by grind)
            have z2 := R.mul_nonneg (a := u1 - u) (b := (t - io m) - io k * u1 - io k * u) (by grind) (by grind)
            grind
    · rcases Std.le_total (a := t) (b := io j2) with z | z
      · exact ⟨_, List.mem_cons_self, And.intro (fun _ z => (nomatch z)) (fun _ q => by cases q; exact z)⟩
      · rcases Std.le_total (a := t) (b := io j1) with z2 | z2
        · exact ⟨_, List.mem_cons_of_mem _ List.mem_cons_self, And.intro (fun _ q => by cases q; exact z) (fun _ q => by cases q; exact z2)⟩
        · exact ⟨_, List.mem_cons_of_mem _ (List.mem_cons_of_mem _ List.mem_cons_self), And.intro (fun _ q => by cases q; exact z2) (fun _ z => (nomatch z))⟩
end
end Sp
/-! SP 4: the program's parts of an ask. -/
namespace Sp
noncomputable section
theorem sz_num {n : Nat} (k : Nat) (hk : k < 2 ^ n) (hn : 1 ≤ n) : Sz n ((k : Int) : Rat) := sz_int (by unfold IS; rw [Int.natAbs_natCast]; exact hk) hn
theorem sz0 : Sz 1 (0 : Rat) := sz_int (s := 0) (show (0 : Int).natAbs < 2 ^ 1 by decide) (by omega)
theorem sz2 : Sz 2 (2 : Rat) := sz_int (s := 2) (show (2 : Int).natAbs < 2 ^ 2 by decide) (by omega)
theorem sz4 : Sz 3 (4 : Rat) := sz_int (s := 4) (show (4 : Int).natAbs < 2 ^ 3 by decide) (by omega)
theorem cZ : cZERO = enc 0 := rfl
theorem cO : cONE = enc 1 := rfl
theorem cT : cTWO = enc 2 := rfl
theorem cF : cFOUR = enc 4 := rfl
theorem encP_eq (p : Part) : encP p = .tup [encR p.lo, encR p.hi, encB p.b] := rfl
theorem G_far_eq {a : Pl} (h : PlOk a) (w : W) : G_far_of [encPl a] w = some (enc a.x, w) := by
  have h0 := h.r0
  have e := G_ratio_eq (w := w) (a := a.p) (b := a.r) (by omega) h.ir (by omega)
  rw [h.hx] at e
  simp [G_far_of, B_far_of, encPl, e]
theorem G_tall_eq {a : Pl} (h : PlOk a) (w : W) : G_tall_of [encPl a] w = some (enc a.y, w) := by
  have h0 := h.r0
  have e := G_ratio_eq (w := w) (a := a.q) (b := a.r) (by omega) h.ir (by omega)
  rw [h.hy] at e
  simp [G_tall_of, B_tall_of, encPl, e]
theorem G_line_eq {x y : Rat} (hx : Sz 40 x) (hy : Sz 40 y) (h0 : 0 < x) (w : W) : G_line_under [enc x, enc y] w = some (encB (lineB x y), w) := by
  have n0 : x ≠ 0 := by grind
  have nn : x * x ≠ 0 := by
    have := Rat.mul_pos h0 h0
    grind
  have e1 := G_ratio_product_eq (w := w) hx hx (by omega)
  have e2 := G_ratio_over_eq (w := w) hy (hx.mul hx) nn (by omega)
  have e3 := G_ratio_over_eq (w := w) sz_one hx n0 (by omega)
  simp [G_line_under, B_line_under, e1, e2, G_ratio_back_eq, cO, e3, cZ]
  rfl
theorem G_way_eq {a b : Pl} (ha : PlOk a) (hb : PlOk b) (hab : a.x < b.x) (w : W) : G_way_between [encPl a, encPl b] w = some (.tup [enc (roofK a.x a.y b.x b.y), enc (roofM a.x a.y b.x b.y)], w) := by
  have n0 : b.x - a.x ≠ 0 := by grind
  have s1 := hb.sx.sub ha.sx
  have s2 := hb.sy.sub ha.sy
  have e1 := G_ratio_less_eq (w := w) hb.sx ha.sx (by omega)
  have e2 := G_ratio_less_eq (w := w) hb.sy ha.sy (by omega)
  have e3 : G_ratio [.int ((b.y - a.y).num * (b.x - a.x).den), .int ((b.y - a.y).den * (b.x - a.x).num)] w = some (enc (roofM a.x a.y b.x b.y), w) := by
    have e := G_ratio_eq (w := w) (a := (b.y - a.y).num * (b.x - a.x).den) (Int.mul_ne_zero (dn0 (b.y - a.y)) (num0 n0)) (s2.dn.mul s1.num) (by omega)
    rw [← rat_div] at e
    exact e
  have s3 : Sz 162 (roofM a.x a.y b.x b.y) := (s2.div s1 n0).mono (by omega)
  have e4 := G_ratio_product_eq (w := w) s3 ha.sx (by omega)
  have e5 := G_ratio_less_eq (w := w) ha.sy (s3.mul ha.sx) (by omega)
  have m1 := mulOk_of s2.num s1.dn (by omega)
  have m2 := mulOk_of s2.dn s1.num (by omega)
  have g : ∀ r : Rat, fIx (enc r) (.int 0) = some (.int r.num) ∧ fIx (enc r) (.int 1) = some (.int r.den) := fun r => ⟨rfl, rfl⟩
  simp [G_way_between, B_way_between, G_far_eq ha, G_far_eq hb, G_tall_eq ha, G_tall_eq hb, e1, e2, -fIx, g, m1, m2, e3, e4, e5]
  rfl
theorem plain_take {w : W} (h : A.plain w = true) : A.plain (w.take w.length) = true := by
  rw [List.take_length]
  exact h
theorem noCell_enc (r : Rat) : A.noCell (enc r) = true := rfl
theorem G_joined_eq {j : Rat} {b1 b2 : Bt} {w : W} (hw : A.plain w = true) (hne : A.eqv (encB b1) (encB b2) = false) : G_joined [.lst [.tup [.non, enc j, encB b1], .tup [enc j, .non, encB b2]]] w = some (.lst [.tup [.non, enc j, encB b1], .tup [enc j, .non, encB b2]], w) := by
  have d : ∀ n b, A.dat (n + 2) (encB b) = true := fun n b => by simp [encB, dat_enc]
  have wl : (w ++ [[]])[w.length]? = some [] := by simp
  have wl2 : ∀ x : List A, (w ++ [x])[w.length]? = some x := fun x => by simp
  have ws : ∀ x y : List A, (w ++ [x]).set w.length y = w ++ [y] := fun x y => by
    rw [List.set_append_right _ _ (Nat.le_refl _)]
    simp
  have tk : ∀ x : List A, (w ++ [x]).take w.length = w := fun x => by simp
  have nb : ∀ b, A.noCell (encB b) = true := fun b => rfl
  have fe : fEqB (encB b1) (encB b2) = some false := by
    show (if A.dat 40 (encB b1) && A.dat 40 (encB b2) then some (A.eqv (encB b1) (encB b2)) else none) = some false
    simp [d, hne]
  simp [G_joined, B_joined, xAlloc, xNeNil, wl, xApp, ws, wl2, xIxC, d, -fEqB, fe, xFin, tk, A.noCells, A.noCell, noCell_enc, nb, hw, dat_enc]
theorem lineB_ne {x1 y1 x2 y2 : Rat} (h1 : 0 < x1) (h2 : x1 < x2) : A.eqv (encB (lineB x2 y2)) (encB (lineB x1 y1)) = false := by
  have e : (1 : Rat) / x2 ≠ 1 / x1 := by
    have : x1 ≠ 0 := by grind
    have : x2 ≠ 0 := by grind
    intro z
    have : x1 = x2 := by grind
    grind
  have key : ∀ a b : Rat, a ≠ b → A.eqv (enc a) (enc b) = false := fun a b h => by
    simp [enc]
    intro h1 h2
    exact h (Rat.ext h1 (by omega))
  simp [encB, lineB, key _ _ e]
theorem sz_line {x y : Rat} (hx : Sz 40 x) (hy : Sz 40 y) (h0 : 0 < x) : BtOk 120 (lineB x y) := by
  have n0 : x ≠ 0 := by grind
  have nn : x * x ≠ 0 := by
    have := Rat.mul_pos h0 h0
    grind
  exact ⟨((hy.div (hx.mul hx) nn).neg).mono (by omega), (sz_one.div hx n0).mono (by omega), sz0.mono (by omega)⟩
theorem sz_roof {x1 y1 x2 y2 : Rat} (a1 : Sz 40 x1) (a2 : Sz 40 y1) (a3 : Sz 40 x2) (a4 : Sz 40 y2) (hab : x1 < x2) : Sz 162 (roofM x1 y1 x2 y2) ∧ Sz 243 (roofK x1 y1 x2 y2) := by
  have n0 : x2 - x1 ≠ 0 := by grind
  have s3 : Sz 162 (roofM x1 y1 x2 y2) := ((a4.sub a2).div (a3.sub a1) n0).mono (by omega)
  exact ⟨s3, (a2.sub (s3.mul a1)).mono (by omega)⟩
theorem G_roof_eq {a b : Pl} (ha : PlOk a) (hb : PlOk b) (hab : a.x < b.x) {w : W} (hw : A.plain w = true) : G_roof_bound [encPl a, encPl b] w = some (.lst ((roofParts a.x a.y b.x b.y).map encP), w) := by
  have e1 := G_way_eq ha hb hab w
  have l1 := G_line_eq ha.sx ha.sy ha.xp w
  have l2 := G_line_eq hb.sx hb.sy hb.xp w
  obtain ⟨sm, sk⟩ := sz_roof ha.sx ha.sy hb.sx hb.sy hab
  have jo := fun j => G_joined_eq (j := j) hw (lineB_ne (y1 := a.y) (y2 := b.y) ha.xp hab)
  have n1 : a.x ≠ 0 := by have := ha.xp; grind
  have n2 : b.x ≠ 0 := by have := hb.xp; grind
  unfold roofParts
  generalize roofM a.x a.y b.x b.y = m at *
  generalize roofK a.x a.y b.x b.y = k at *
  have g : ∀ r : Rat, fIx (enc r) (.int 0) = some (.int r.num) := fun r => rfl
  have kn : k.num ≤ 0 ↔ k ≤ 0 := by
    rw [← Int.not_lt, num_pos, Rat.not_lt]
  by_cases hk : k ≤ 0
  · simp only [if_pos hk]
    have f1 := G_ratio_over_eq (w := w) sk ha.sx n1 (by omega)
    have f2 := G_ratio_over_eq (w := w) sk hb.sx n2 (by omega)
    have f3 := G_ratio_sum_eq (w := w) (sk.div ha.sx n1) (sk.div hb.sx n2) (by omega)
    have f4 := G_ratio_sum_eq (w := w) sm ((sk.div ha.sx n1).add (sk.div hb.sx n2)) (by omega)
    have kn' := kn.mpr hk
    simp [G_roof_bound, B_roof_bound, e1, G_far_eq ha, G_far_eq hb, G_tall_eq ha, G_tall_eq hb, l1, l2, -fIx, g, kn', f1, f2, f3, f4, jo, encP, encR]
  · simp only [if_neg hk]
    have kn' : ¬ k.num ≤ 0 := fun z => hk (kn.mp z)
    have s2k : Sz 245 (2 * k) := (sz2.mul sk).mono (by omega)
    have s4k : Sz 246 (4 * k) := (sz4.mul sk).mono (by omega)
    have n4 : 4 * k ≠ 0 := by grind
    have f1 := G_ratio_product_eq (w := w) sz2 sk (by omega)
    have f2 := G_ratio_over_eq (w := w) s2k ha.sx n1 (by omega)
    have f3 := G_ratio_over_eq (w := w) s2k hb.sx n2 (by omega)
    have f4 := G_ratio_sum_eq (w := w) sm (s2k.div ha.sx n1) (by omega)
    have f5 := G_ratio_sum_eq (w := w) sm (s2k.div hb.sx n2) (by omega)
    have f6 := G_ratio_product_eq (w := w) sz4 sk (by omega)
    have f7 := G_ratio_over_eq (w := w) sz_one s4k n4 (by omega)
    have sW := sz_one.div s4k n4
    have f8 := G_ratio_product_eq (w := w) sm sm (by omega)
    have f9 := G_ratio_product_eq (w := w) sW (sm.mul sm) (by omega)
    have f10 := G_ratio_product_eq (w := w) sz2 sm (by omega)
    have f11 := G_ratio_product_eq (w := w) (sz2.mul sm).neg sW (by omega)
    simp [G_roof_bound, B_roof_bound, e1, G_far_eq ha, G_far_eq hb, G_tall_eq ha, G_tall_eq hb, l1, l2, -fIx, g, kn', cT, cO, cF, f1, f2, f3, f4, f5, f6, f7, f8, f9, f10, f11, G_ratio_back_eq, encP, encR, encB]
theorem partOk1 {n : Nat} {b : Bt} (h : BtOk n b) (hn : n ≤ 740) (he : 0 ≤ b.e) : PartOk 740 ⟨none, none, b⟩ := ⟨fun _ z => (nomatch z), fun _ z => (nomatch z), ⟨h.c.mono hn, h.d.mono hn, h.e.mono hn⟩, he, fun _ _ z => (nomatch z)⟩
theorem inv_nonneg {x : Rat} (h : 0 < x) : 0 ≤ 1 / x := by
  rw [Rat.div_def]
  have := Rat.inv_pos.mpr h
  grind
theorem roof_ok {x1 y1 x2 y2 : Rat} (a1 : Sz 40 x1) (a2 : Sz 40 y1) (a3 : Sz 40 x2) (a4 : Sz 40 y2) (h0 : 0 < x1) (hab : x1 < x2) : ∀ p ∈ roofParts x1 y1 x2 y2, PartOk 740 p := by
  obtain ⟨sm, sk⟩ := sz_roof a1 a2 a3 a4 hab
  have b1 := sz_line a1 a2 h0
  have b2 := sz_line a3 a4 (x := x2) (y := y2) (by grind)
  have n1 : x1 ≠ 0 := by grind
  have n2 : x2 ≠ 0 := by grind
  have up : ∀ {b : Bt}, BtOk 120 b → BtOk 740 b := fun h => ⟨h.c.mono (by omega), h.d.mono (by omega), h.e.mono (by omega)⟩
  unfold roofParts
  generalize roofM x1 y1 x2 y2 = m at *
  generalize roofK x1 y1 x2 y2 = k at *
  by_cases hk : k ≤ 0
  · simp only [if_pos hk]
    have sj : Sz 740 (m + (k / x1 + k / x2)) := (sm.add ((sk.div a1 n1).add (sk.div a3 n2))).mono (by omega)
    intro p hp
    rcases List.mem_cons.mp hp with rfl | hp
    · exact ⟨fun _ z => (nomatch z), fun _ z => by cases z; exact sj, up b2, Rat.le_refl, fun _ _ z => (nomatch z)⟩
    · rw [List.mem_singleton.mp hp]
      exact ⟨fun _ z => by cases z; exact sj, fun _ z => (nomatch z), up b1, Rat.le_refl, fun _ _ _ z => (nomatch z)⟩
  · simp only [if_neg hk]
    have k0 : 0 < k := by grind
    have s2k : Sz 245 (2 * k) := (sz2.mul sk).mono (by omega)
    have s4k : Sz 246 (4 * k) := (sz4.mul sk).mono (by omega)
    have n4 : 4 * k ≠ 0 := by grind
    have sW := sz_one.div s4k n4
    have j1 : Sz 740 (m + 2 * k / x1) := (sm.add (s2k.div a1 n1)).mono (by omega)
    have j2 : Sz 740 (m + 2 * k / x2) := (sm.add (s2k.div a3 n2)).mono (by omega)
    have inv : 2 * k / x2 ≤ 2 * k / x1 := by
      have p1 := Rat.inv_pos.mpr h0
      have p2 := Rat.inv_pos.mpr (show 0 < x2 by grind)
      have q1 := Rat.mul_inv_cancel x1 n1
      have q2 := Rat.mul_inv_cancel x2 n2
      have z := Rat.mul_lt_mul_of_pos_right hab (Rat.mul_pos p1 p2)
      have e1 : x1 * (x1⁻¹ * x2⁻¹) = x2⁻¹ := by grind
      have e2 : x2 * (x1⁻¹ * x2⁻¹) = x1⁻¹ := by grind
      rw [e1, e2] at z
      have z2 := Rat.mul_lt_mul_of_pos_left z k0
      rw [Rat.div_def, Rat.div_def]
      grind
    intro p hp
    rcases List.mem_cons.mp hp with rfl | hp
    · exact ⟨fun _ z => (nomatch z), fun _ z => by cases z; exact j2, up b2, Rat.le_refl, fun _ _ z => (nomatch z)⟩
    · rcases List.mem_cons.mp hp with rfl | hp
      · refine ⟨fun _ z => by cases z; exact j2, fun _ z => by cases z; exact j1, ⟨(sW.mul (sm.mul sm)).mono (by omega), ((sz2.mul sm).neg.mul sW).mono (by omega), sW.mono (by omega)⟩, inv_nonneg (by grind), fun r s z1 z2 => ?_⟩
        cases z1
        cases z2
        grind
      · rw [List.mem_singleton.mp hp]
        exact ⟨fun _ z => by cases z; exact j1, fun _ z => (nomatch z), up b1, Rat.le_refl, fun _ _ _ z => (nomatch z)⟩
theorem half_sz {x : Rat} (hx : Sz 40 x) (h0 : x ≠ 0) : Sz 43 (1 / (2 * x)) := (sz_one.div (sz2.mul hx) (by grind)).mono (by omega)
theorem parts_ok {a : Ask} (h : AskOk a) (hs : a.steep = false) : ∀ p ∈ a.parts, PartOk 740 p := by
  cases a with
  | over a => intro p hp; rw [List.mem_singleton.mp hp]; exact partOk1 (sz_line h.sx h.sy h.xp) (by omega) Rat.le_refl
  | under a => intro p hp; rw [List.mem_singleton.mp hp]; exact partOk1 (sz_line h.sx h.sy h.xp) (by omega) Rat.le_refl
  | roof a b => exact roof_ok h.1.sx h.1.sy h.2.1.sx h.2.1.sy h.1.xp h.2.2
  | low k =>
    obtain ⟨h1, h2⟩ := h
    have sW : Sz 44 (1 / (4 * k)) := (sz_one.div (sz4.mul h1) (by grind)).mono (by omega)
    intro p hp
    rcases List.mem_cons.mp hp with rfl | hp
    · exact ⟨fun _ z => (nomatch z), fun _ z => by cases z; exact sz0.mono (by omega), ⟨sz0.mono (by omega), sz0.mono (by omega), sz0.mono (by omega)⟩, Rat.le_refl, fun _ _ z => (nomatch z)⟩
    · rw [List.mem_singleton.mp hp]
      exact ⟨fun _ z => by cases z; exact sz0.mono (by omega), fun _ z => (nomatch z), ⟨sz0.mono (by omega), sz0.mono (by omega), sW.mono (by omega)⟩, inv_nonneg (by grind), fun _ _ _ z => (nomatch z)⟩
  | dives x s =>
    obtain ⟨h1, h2, h3⟩ := h
    have n0 : x ≠ 0 := of_decide_eq_false hs
    intro p hp; rw [List.mem_singleton.mp hp]
    have := half_sz h1 n0
    exact partOk1 (n := 200) ⟨(this.mul h2).neg.mono (by omega), this.mono (by omega), sz0.mono (by omega)⟩ (by omega) Rat.le_refl
  | climbs x s =>
    obtain ⟨h1, h2, h3⟩ := h
    have n0 : x ≠ 0 := of_decide_eq_false hs
    intro p hp; rw [List.mem_singleton.mp hp]
    have := half_sz h1 n0
    exact partOk1 (n := 200) ⟨(this.mul h2).neg.mono (by omega), this.mono (by omega), sz0.mono (by omega)⟩ (by omega) Rat.le_refl
  | quick k => intro p hp; rw [List.mem_singleton.mp hp]; exact partOk1 (n := 200) ⟨h.1.mono (by omega), sz0.mono (by omega), sz0.mono (by omega)⟩ (by omega) Rat.le_refl
  | slow k => intro p hp; rw [List.mem_singleton.mp hp]; exact partOk1 (n := 200) ⟨h.1.mono (by omega), sz0.mono (by omega), sz0.mono (by omega)⟩ (by omega) Rat.le_refl
theorem eqv_zero (x : Rat) : A.eqv (enc x) (enc 0) = decide (x = 0) := by
  simp [enc]
  rintro rfl
  rfl
theorem fEq_zero (x : Rat) : fEqB (enc x) (enc 0) = some (decide (x = 0)) := by
  show (if A.dat 40 (enc x) && A.dat 40 (enc 0) then some (A.eqv (enc x) (enc 0)) else none) = _
  rw [eqv_zero]
  simp [dat_enc]
theorem G_parts_eq {a : Ask} (h : AskOk a) (hs : a.steep = false) {w : W} (hw : A.plain w = true) : G_parts_of [encAsk a] w = some (.lst (a.parts.map encP), w) := by
  cases a with
  | over a => simp [G_parts_of, B_parts_of, encAsk, fIn, strsOf, cPLACED, G_far_eq h, G_tall_eq h, G_line_eq h.sx h.sy h.xp, Ask.parts, encP, encR]
  | under a => simp [G_parts_of, B_parts_of, encAsk, fIn, strsOf, cPLACED, G_far_eq h, G_tall_eq h, G_line_eq h.sx h.sy h.xp, Ask.parts, encP, encR]
  | roof a b => simp [G_parts_of, B_parts_of, encAsk, fIn, strsOf, cPLACED, words, G_roof_eq h.1 h.2.1 h.2.2 hw, Ask.parts]
  | low k =>
    obtain ⟨h1, h2⟩ := h
    have f6 := G_ratio_product_eq (w := w) sz4 h1 (by omega)
    have f7 := G_ratio_over_eq (w := w) sz_one (sz4.mul h1) (by grind) (by omega)
    simp [G_parts_of, B_parts_of, encAsk, fIn, strsOf, cPLACED, words, Ask.parts, encP, encR, cO, cF, cZ, f6, f7, encB]
  | dives x s =>
    obtain ⟨h1, h2, h3⟩ := h
    have n0 : x ≠ 0 := of_decide_eq_false hs
    have f6 := G_ratio_product_eq (w := w) sz2 h1 (by omega)
    have f7 := G_ratio_over_eq (w := w) sz_one (sz2.mul h1) (by grind) (by omega)
    have f8 := G_ratio_product_eq (w := w) (half_sz h1 n0) h2 (by omega)
    simp [G_parts_of, B_parts_of, encAsk, fIn, strsOf, cPLACED, cSTEEP, words, Ask.parts, encP, encR, cO, cT, cZ, f6, f7, f8, encB, -fEqB, fEq_zero, n0, G_ratio_back_eq, show ∀ s t : String, fEqB (.str s) (.str t) = (if A.dat 40 (.str s) && A.dat 40 (.str t) then some (decide (s = t)) else none) from fun _ _ => rfl]
  | climbs x s =>
    obtain ⟨h1, h2, h3⟩ := h
    have n0 : x ≠ 0 := of_decide_eq_false hs
    have f6 := G_ratio_product_eq (w := w) sz2 h1 (by omega)
    have f7 := G_ratio_over_eq (w := w) sz_one (sz2.mul h1) (by grind) (by omega)
    have f8 := G_ratio_product_eq (w := w) (half_sz h1 n0) h2 (by omega)
    simp [G_parts_of, B_parts_of, encAsk, fIn, strsOf, cPLACED, cSTEEP, words, Ask.parts, encP, encR, cO, cT, cZ, f6, f7, f8, encB, -fEqB, fEq_zero, n0, G_ratio_back_eq, show ∀ s t : String, fEqB (.str s) (.str t) = (if A.dat 40 (.str s) && A.dat 40 (.str t) then some (decide (s = t)) else none) from fun _ _ => rfl]
  | quick k => simp [G_parts_of, B_parts_of, encAsk, fIn, strsOf, cPLACED, cSTEEP, words, Ask.parts, encP, encR, cZ, encB]
  | slow k => simp [G_parts_of, B_parts_of, encAsk, fIn, strsOf, cPLACED, cSTEEP, words, Ask.parts, encP, encR, cZ, encB]
theorem G_head_parts_eq {k : Rat} (h1 : Sz 100 k) (h0 : 0 < k) (w : W) : G_head_parts [enc k] w = some (.lst [encP ⟨none, none, ⟨1 / (4 * k), 0, 1 / (4 * k)⟩⟩], w) := by
  have f6 := G_ratio_product_eq (w := w) sz4 h1 (by omega)
  have f7 := G_ratio_over_eq (w := w) sz_one (sz4.mul h1) (by grind) (by omega)
  simp [G_head_parts, B_head_parts, cO, cF, cZ, f6, f7, encP, encR, encB]
theorem G_least_eq (a : Ask) (w : W) : G_is_least [encAsk a] w = some (.bl a.least, w) := by
  cases a <;> simp [G_is_least, B_is_least, encAsk, fIn, strsOf, cLEAST, Ask.least]
theorem G_steep_eq (a : Ask) (w : W) : G_is_steep [encAsk a] w = some (.bl a.steep, w) := by
  cases a <;> simp [G_is_steep, B_is_steep, encAsk, fIn, strsOf, cSTEEP, Ask.steep, cZ, -fEqB, fEq_zero]
end
end Sp
/-! SP 5: the program's slopes of a head and asks. -/
namespace Sp
noncomputable section
theorem lc_map {α : Type} {g : GG} {gt : GT} {ge : GE} {s0 : SS} {w : W} (en : α → A) (ss : α → SS) (b : α → Bool) (f : α → A) : ∀ xs : List α, (∀ x ∈ xs, g (en x) s0 = some (ss x) ∧ gt (ss x) w = some (b x, w) ∧ (b x = true → ge (ss x) w = some (f x, w))) → lcLoop g gt ge s0 (xs.map en) w = some ((xs.filter b).map f, w)
  | [], _ => by simp
  | x :: xs, h => by
    obtain ⟨h1, h2, h3⟩ := h x List.mem_cons_self
    have ih := lc_map en ss b f xs fun y hy => h y (List.mem_cons_of_mem _ hy)
    rw [List.map_cons, lcLoop, h1]
    dsimp only [Option.bind_some]
    rw [h2]
    dsimp only [Option.bind_some]
    by_cases hb : b x = true
    · rw [if_pos hb, h3 hb]
      dsimp only [Option.bind_some]
      rw [ih, List.filter_cons_of_pos hb]
      rfl
    · rw [if_neg hb, ih, List.filter_cons_of_neg hb]
/-- the asks with their numbers -/
def numbered (as : List Ask) : List (Int × Ask) := ((List.range as.length).map Int.ofNat).zip as
theorem pairs_numbered (as : List Ask) : pairs (nums 0 as.length) (as.map encAsk) = (numbered as).map fun p => .tup [.int p.1, encAsk p.2] := by
  unfold pairs nums numbered
  have e : (List.range as.length).map (fun i => A.int (0 + (i : Nat))) = ((List.range as.length).map Int.ofNat).map A.int := by
    rw [List.map_map]
    refine List.map_congr_left fun i _ => ?_
    show A.int (0 + (i : Int)) = A.int (Int.ofNat i)
    rw [Int.zero_add]
    rfl
  rw [e, List.zip_map, List.map_map]
  rfl
theorem numbered_snd (as : List Ask) : (numbered as).map (·.2) = as := by
  unfold numbered
  rw [List.map_snd_zip]
  simp
theorem numbered_mem {as : List Ask} {p : Int × Ask} (h : p ∈ numbered as) : p.2 ∈ as := by
  rw [← numbered_snd as]
  exact List.mem_map_of_mem h
theorem mem_numbered {as : List Ask} {a : Ask} (h : a ∈ as) : ∃ p ∈ numbered as, p.2 = a := by
  rw [← numbered_snd as] at h
  exact List.mem_map.mp h
/-! ### the program's loops -/
structure Low where
  ix : A
  ps : List Part
  F : R → R → Prop
structure LowOk (l : Low) : Prop where
  pc : Pieces l.ps (Bd l.F)
  ok : ∀ p ∈ l.ps, PartOk 740 p
def encLow (l : Low) : A := .tup [l.ix, .lst (l.ps.map encP)]
structure Upp where
  ix : A
  b : Bt
def encUpp (u : Upp) : A := .tup [u.ix, encB u.b]
def inB : GS := xAsg (xCall G_met (xConsA (xVar 1) (xConsA (xCall G_below_stretch (xConsA (xVar 5) (xConsA (xVar 7) (xNilA)))) (xNilA)))) (xName 1)
theorem in_walk {l : Low} (hl : LowOk l) (s0 s2 s3 s4 : Option A) (w : W) : ∀ (us : List Upp) (c : A) (V : R → Prop) (s6 s7 : Option A), (∀ u ∈ us, BtOk 740 u.b ∧ u.b.e = 0) → IsSpan 8891 c V → ∃ c' z6 z7, forLoop (xTupG (xConsG (xName 6) (xConsG (xName 7) (xNilG)))) inB (us.map encUpp) [s0, some c, s2, s3, s4, some (.lst (l.ps.map encP)), s6, s7] w = some (.nx [s0, some c', s2, s3, s4, some (.lst (l.ps.map encP)), z6, z7] w) ∧
    IsSpan 8891 c' fun t => V t ∧ ∀ u ∈ us, Bd l.F t (bv u.b t)
  | [], c, V, s6, s7, _, hc => ⟨c, s6, s7, by simp, hc.iff fun t => ⟨fun h => ⟨h, fun _ z => nomatch z⟩, fun h => h.1⟩⟩
  | u :: us, c, V, s6, s7, hu, hc => by
    obtain ⟨u1, u2⟩ := hu u List.mem_cons_self
    obtain ⟨d, e1, e2⟩ := G_below_eq (w := w) u1 u2 (cvx_Bd u2) hl.pc hl.ok
    obtain ⟨m, e3, e4⟩ := G_met_eq (w := w) hc e2 (by omega)
    obtain ⟨c', z6, z7, f1, f2⟩ := in_walk hl s0 s2 s3 s4 w us m _ (some u.ix) (some (encB u.b)) (fun v hv => hu v (List.mem_cons_of_mem _ hv)) e4
    refine ⟨c', z6, z7, ?_, f2.iff fun t => ?_⟩
    · rw [List.map_cons]
      conv => lhs; unfold forLoop
      have st : (xTupG (xConsG (xName 6) (xConsG (xName 7) (xNilG)))) (encUpp u) [s0, some c, s2, s3, s4, some (.lst (l.ps.map encP)), s6, s7] = some [s0, some c, s2, s3, s4, some (.lst (l.ps.map encP)), some u.ix, some (encB u.b)] := rfl
      have bd : inB [s0, some c, s2, s3, s4, some (.lst (l.ps.map encP)), some u.ix, some (encB u.b)] w = some (.nx [s0, some m, s2, s3, s4, some (.lst (l.ps.map encP)), some u.ix, some (encB u.b)] w) := by
        simp [inB, e1, e3]
      rw [st]
      dsimp only [Option.bind_some]
      rw [bd]
      exact f1
    · constructor
      · rintro ⟨⟨h1, h2⟩, h3⟩
        refine ⟨h1, fun v hv => ?_⟩
        rcases List.mem_cons.mp hv with rfl | hv
        · exact h2
        · exact h3 v hv
      · rintro ⟨h1, h2⟩
        exact ⟨⟨h1, h2 u List.mem_cons_self⟩, fun v hv => h2 v (List.mem_cons_of_mem _ hv)⟩
def outB : GS := xFor (yLst (xUn (fFld "uppers") (xVar 0))) (xTupG (xConsG (xName 6) (xConsG (xName 7) (xNilG)))) inB
theorem out_walk {us : List Upp} (hu : ∀ u ∈ us, BtOk 740 u.b ∧ u.b.e = 0) (lo le : A) (s2 s3 : Option A) (w : W) : ∀ (ls : List Low) (c : A) (V : R → Prop) (s4 s5 s6 s7 : Option A), (∀ l ∈ ls, LowOk l) → IsSpan 8891 c V → ∃ c' z4 z5 z6 z7, forLoop (xTupG (xConsG (xName 4) (xConsG (xName 5) (xNilG)))) outB (ls.map encLow) [some (.ins lo (.lst (us.map encUpp)) le), some c, s2, s3, s4, s5, s6, s7] w = some (.nx [some (.ins lo (.lst (us.map encUpp)) le), some c', s2, s3, z4, z5, z6, z7] w) ∧
    IsSpan 8891 c' fun t => V t ∧ ∀ l ∈ ls, ∀ u ∈ us, Bd l.F t (bv u.b t)
  | [], c, V, s4, s5, s6, s7, _, hc => ⟨c, s4, s5, s6, s7, by simp, hc.iff fun t => ⟨fun h => ⟨h, fun _ z => nomatch z⟩, fun h => h.1⟩⟩
  | l :: ls, c, V, s4, s5, s6, s7, hl, hc => by
    obtain ⟨m, y6, y7, e1, e2⟩ := in_walk (hl l List.mem_cons_self) (some (.ins lo (.lst (us.map encUpp)) le)) s2 s3 (some l.ix) w us c V s6 s7 hu hc
    obtain ⟨c', z4, z5, z6, z7, f1, f2⟩ := out_walk hu lo le s2 s3 w ls m _ (some l.ix) (some (.lst (l.ps.map encP))) y6 y7 (fun v hv => hl v (List.mem_cons_of_mem _ hv)) e2
    refine ⟨c', z4, z5, z6, z7, ?_, f2.iff fun t => ?_⟩
    · rw [List.map_cons]
      conv => lhs; unfold forLoop
      have st : (xTupG (xConsG (xName 4) (xConsG (xName 5) (xNilG)))) (encLow l) [some (.ins lo (.lst (us.map encUpp)) le), some c, s2, s3, s4, s5, s6, s7] = some [some (.ins lo (.lst (us.map encUpp)) le), some c, s2, s3, some l.ix, some (.lst (l.ps.map encP)), s6, s7] := rfl
      have bd : outB [some (.ins lo (.lst (us.map encUpp)) le), some c, s2, s3, some l.ix, some (.lst (l.ps.map encP)), s6, s7] w = some (.nx [some (.ins lo (.lst (us.map encUpp)) le), some m, s2, s3, some l.ix, some (.lst (l.ps.map encP)), y6, y7] w) := e1
      rw [st]
      dsimp only [Option.bind_some]
      rw [bd]
      exact f1
    · constructor
      · rintro ⟨⟨h1, h2⟩, h3⟩
        refine ⟨h1, fun v hv => ?_⟩
        rcases List.mem_cons.mp hv with rfl | hv
        · exact h2
        · exact h3 v hv
      · rintro ⟨h1, h2⟩
        exact ⟨⟨h1, h2 l List.mem_cons_self⟩, fun v hv => h2 v (List.mem_cons_of_mem _ hv)⟩
/-- the slopes that the upright asks let -/
def ends (o q : Option Rat) (t : R) : Prop := inI (o.map io) (q.map io) t
theorem G_stretch_eq {us : List Upp} (hu : ∀ u ∈ us, BtOk 740 u.b ∧ u.b.e = 0) {ls : List Low} (hl : ∀ l ∈ ls, LowOk l) {o q : Option Rat} (ho : ∀ r, o = some r → Sz 40 r) (hq : ∀ r, q = some r → Sz 40 r) (w : W) :
    ∃ c, G_stretch [.ins (.lst (ls.map encLow)) (.lst (us.map encUpp)) (.tup [encR o, encR q])] w = some (c, w) ∧ IsSpan 8891 c fun t => ends o q t ∧ ∀ l ∈ ls, ∀ u ∈ us, Bd l.F t (bv u.b t) := by
  obtain ⟨lo, e1, k1⟩ := G_as_surd_eq (n := 8891) (w := w) (fun r h => (ho r h).mono (by omega)) (by omega)
  obtain ⟨hi, e2, k2⟩ := G_as_surd_eq (n := 8891) (w := w) (fun r h => (hq r h).mono (by omega)) (by omega)
  have s1 : IsSpan 8891 (.tup [lo, .non]) (fun t => inI (o.map io) none t) := .inr ⟨_, _, _, _, rfl, k1, .inl ⟨rfl, rfl⟩, fun _ _ _ z => (nomatch z), fun t => Iff.rfl⟩
  have s2 : IsSpan 8891 (.tup [.non, hi]) (fun t => inI none (q.map io) t) := .inr ⟨_, _, _, _, rfl, .inl ⟨rfl, rfl⟩, k2, fun _ _ z => (nomatch z), fun t => Iff.rfl⟩
  obtain ⟨m, e3, k3⟩ := G_met_eq (w := w) s1 s2 (by omega)
  obtain ⟨c', z4, z5, z6, z7, f1, f2⟩ := out_walk hu (.lst (ls.map encLow)) (.tup [encR o, encR q]) (some (encR o)) (some (encR q)) w ls m _ none none none none hl k3
  refine ⟨c', ?_, f2.iff fun t => ?_⟩
  · have e : xFor (yLst (xUn (fFld "lowers") (xVar 0))) (xTupG (xConsG (xName 4) (xConsG (xName 5) (xNilG)))) outB [some (.ins (.lst (ls.map encLow)) (.lst (us.map encUpp)) (.tup [encR o, encR q])), some m, some (encR o), some (encR q), none, none, none, none] w = some (.nx [some (.ins (.lst (ls.map encLow)) (.lst (us.map encUpp)) (.tup [encR o, encR q])), some c', some (encR o), some (encR q), z4, z5, z6, z7] w) := f1
    unfold G_stretch
    refine (xDef_eq (n := 1) (as := [_]) rfl).trans ?_
    show xDef.xRun (xSeq (xAsg (xUn (fFld "let") (xVar 0)) (xTupG (xConsG (xName 2) (xConsG (xName 3) (xNilG))))) (xSeq (xAsg (xCall G_met (xConsA (xTup (xConsA (xCall G_as_surd (xConsA (xVar 2) (xNilA))) (xConsA (xC .non) (xNilA)))) (xConsA (xTup (xConsA (xC .non) (xConsA (xCall G_as_surd (xConsA (xVar 3) (xNilA))) (xNilA)))) (xNilA)))) (xName 1)) (xSeq (xFor (yLst (xUn (fFld "lowers") (xVar 0))) (xTupG (xConsG (xName 4) (xConsG (xName 5) (xNilG)))) outB) (xRet (xVar 1)))) _ w) = _
    simp [-xFor, e, fFld, e1, e2, e3]
  · unfold ends inI
    constructor
    · rintro ⟨⟨⟨h1, _⟩, _, h2⟩, h3⟩
      exact ⟨⟨h1, h2⟩, h3⟩
    · rintro ⟨⟨h1, h2⟩, h3⟩
      exact ⟨⟨⟨h1, fun _ z => (nomatch z)⟩, fun _ z => (nomatch z), h2⟩, h3⟩
end
end Sp
/-! SP 6: the program's slopes_of. -/
namespace Sp
noncomputable section
def Ask.fam : Ask → R → R → Prop
  | .over a => famB (lineB a.x a.y)
  | .under a => famB (lineB a.x a.y)
  | .roof a b => famRoof (roofM a.x a.y b.x b.y) (roofK a.x a.y b.x b.y) a.x b.x
  | .low h => famLow (1 / (4 * h))
  | .dives x s => famB ⟨-(1 / (2 * x) * s), 1 / (2 * x), 0⟩
  | .climbs x s => famB ⟨-(1 / (2 * x) * s), 1 / (2 * x), 0⟩
  | .quick k => famB ⟨k, 0, 0⟩
  | .slow k => famB ⟨k, 0, 0⟩
def Ask.line (a : Ask) : Bt := match a.parts with
  | p :: _ => p.b
  | [] => ⟨0, 0, 0⟩
/-- what an upright ask asks -/
def Ask.up : Ask → R → Prop
  | .dives x s, t => x = 0 → t ≤ io s
  | .climbs x s, t => x = 0 → io s ≤ t
  | _, _ => True
theorem inv_pos4 {h : Rat} (h0 : 0 < h) : 0 < 1 / (4 * h) := by
  rw [Rat.div_def]
  have := Rat.inv_pos.mpr (show 0 < 4 * h by grind)
  grind
theorem pieces_ask {a : Ask} (h : AskOk a) (hs : a.steep = false) : Pieces a.parts (Bd a.fam) := by
  cases a with
  | over a => exact pieces_line rfl
  | under a => exact pieces_line rfl
  | roof a b => exact pieces_roof h.1.xp h.2.2
  | low k => exact pieces_low (inv_pos4 h.2)
  | dives x s => exact pieces_line rfl
  | climbs x s => exact pieces_line rfl
  | quick k => exact pieces_line rfl
  | slow k => exact pieces_line rfl
theorem line_ok {a : Ask} (h : AskOk a) (hs : a.steep = false) (hl : a.least = false) : BtOk 740 a.line ∧ a.line.e = 0 := by
  have ok := parts_ok h hs
  cases a with
  | over a => exact ⟨(ok _ List.mem_cons_self).b, rfl⟩
  | under a => cases hl
  | roof a b => cases hl
  | low k => cases hl
  | dives x s => cases hl
  | climbs x s => exact ⟨(ok _ List.mem_cons_self).b, rfl⟩
  | quick k => exact ⟨(ok _ List.mem_cons_self).b, rfl⟩
  | slow k => cases hl
theorem line_ix {a : Ask} (hl : a.least = false) : ((fIx (.lst (a.parts.map encP)) (.int 0)).bind fun z => fIx z (.int 2)) = some (encB a.line) := by
  cases a <;> first | (cases hl; done) | rfl
/-! ### the upright asks -/
def letB : GS := xSeq (xIfS (xAnd (xT (xCall G_is_steep (xConsA (xVar 1) (xNilA)))) (xT (xOp fEq (xOp fIx (xVar 1) (xC (.int 0))) (xC (.str "climbs"))))) (xAsg (xIf (xOr (xT (xUn fIsN (xVar 2))) (xT (xCall G_is_lower (xConsA (xVar 2) (xConsA (xOp fIx (xVar 1) (xC (.int 2))) (xNilA)))))) (xOp fIx (xVar 1) (xC (.int 2))) (xVar 2)) (xName 2)) (xNext))
  (xIfS (xAnd (xT (xCall G_is_steep (xConsA (xVar 1) (xNilA)))) (xT (xOp fEq (xOp fIx (xVar 1) (xC (.int 0))) (xC (.str "dives"))))) (xAsg (xIf (xOr (xT (xUn fIsN (xVar 3))) (xT (xCall G_is_lower (xConsA (xOp fIx (xVar 1) (xC (.int 2))) (xConsA (xVar 3) (xNilA)))))) (xOp fIx (xVar 1) (xC (.int 2))) (xVar 3)) (xName 3)) (xNext))
theorem let_step (s0 : Option A) (a : Ask) (o q : Option Rat) (h : AskOk a) (ho : ∀ r, o = some r → Sz 40 r) (hq : ∀ r, q = some r → Sz 40 r) (w : W) : ∃ o' q', letB [s0, some (encAsk a), some (encR o), some (encR q)] w = some (.nx [s0, some (encAsk a), some (encR o'), some (encR q')] w) ∧ (∀ r, o' = some r → Sz 40 r) ∧ (∀ r, q' = some r → Sz 40 r) ∧ ∀ t, ends o' q' t ↔ (ends o q t ∧ a.up t) := by
  have st := G_steep_eq a w
  have nn : ∀ r, fIsN (enc r) = some (.bl false) := fun _ => rfl
  by_cases hs : a.steep = true
  · cases a with
    | dives x s =>
      have x0 : x = 0 := of_decide_eq_true hs
      subst x0
      obtain ⟨_, h2, _⟩ := h
      cases q with
      | none =>
        refine ⟨o, some s, ?_, ho, fun r z => by cases z; exact h2, fun t => ?_⟩
        · rw [hs] at st
          unfold encAsk at st
          simp [letB, encAsk, st, words, encR]
        · unfold ends inI Ask.up
          simp
      | some r =>
        have e := G_is_lower_eq (w := w) h2 (hq r rfl) (by omega)
        by_cases c : s < r
        · refine ⟨o, some s, ?_, ho, fun r z => by cases z; exact h2, fun t => ?_⟩
          · rw [hs] at st
            unfold encAsk at st
            simp [letB, encAsk, st, words, encR, -fIsN, nn, e, c]
          · have := io_lt.mpr c
            unfold ends inI Ask.up
            simp
            grind
        · refine ⟨o, some r, ?_, ho, hq, fun t => ?_⟩
          · rw [hs] at st
            unfold encAsk at st
            simp [letB, encAsk, st, words, encR, -fIsN, nn, e, c]
          · have := io_le.mpr (Rat.not_lt.mp c)
            unfold ends inI Ask.up
            simp
            grind
    | climbs x s =>
      have x0 : x = 0 := of_decide_eq_true hs
      subst x0
      obtain ⟨_, h2, _⟩ := h
      cases o with
      | none =>
        refine ⟨some s, q, ?_, fun r z => by cases z; exact h2, hq, fun t => ?_⟩
        · rw [hs] at st
          unfold encAsk at st
          simp [letB, encAsk, st, words, encR]
        · unfold ends inI Ask.up
          simp
          grind
      | some r =>
        have e := G_is_lower_eq (w := w) (ho r rfl) h2 (by omega)
        by_cases c : r < s
        · refine ⟨some s, q, ?_, fun r z => by cases z; exact h2, hq, fun t => ?_⟩
          · rw [hs] at st
            unfold encAsk at st
            simp [letB, encAsk, st, words, encR, -fIsN, nn, e, c]
          · have := io_lt.mpr c
            unfold ends inI Ask.up
            simp
            grind
        · refine ⟨some r, q, ?_, ho, hq, fun t => ?_⟩
          · rw [hs] at st
            unfold encAsk at st
            simp [letB, encAsk, st, words, encR, -fIsN, nn, e, c]
          · have := io_le.mpr (Rat.not_lt.mp c)
            unfold ends inI Ask.up
            simp
            grind
    | _ => cases hs
  · have hs' : a.steep = false := by simpa using hs
    refine ⟨o, q, ?_, ho, hq, fun t => ?_⟩
    · rw [hs'] at st
      simp [letB, st]
    · have : a.up t := by
        cases a with
        | dives x s => exact fun z => absurd (decide_eq_true z) hs
        | climbs x s => exact fun z => absurd (decide_eq_true z) hs
        | _ => trivial
      exact ⟨fun h => ⟨h, this⟩, fun h => h.1⟩
theorem let_walk (s0 : Option A) (w : W) : ∀ (as : List Ask) (o q : Option Rat) (s1 : Option A), (∀ a ∈ as, AskOk a) → (∀ r, o = some r → Sz 40 r) → (∀ r, q = some r → Sz 40 r) → ∃ o' q' z1, forLoop (xName 1) letB (as.map encAsk) [s0, s1, some (encR o), some (encR q)] w = some (.nx [s0, z1, some (encR o'), some (encR q')] w) ∧ (∀ r, o' = some r → Sz 40 r) ∧ (∀ r, q' = some r → Sz 40 r) ∧ ∀ t, ends o' q' t ↔ (ends o q t ∧ ∀ a ∈ as, a.up t)
  | [], o, q, s1, _, ho, hq => ⟨o, q, s1, by simp, ho, hq, fun t => ⟨fun h => ⟨h, fun _ z => nomatch z⟩, fun h => h.1⟩⟩
  | a :: as, o, q, s1, h, ho, hq => by
    obtain ⟨o1, q1, e1, e2, e3, e4⟩ := let_step s0 a o q (h a List.mem_cons_self) ho hq w
    obtain ⟨o', q', z1, f1, f2, f3, f4⟩ := let_walk s0 w as o1 q1 (some (encAsk a)) (fun b hb => h b (List.mem_cons_of_mem _ hb)) e2 e3
    refine ⟨o', q', z1, ?_, f2, f3, fun t => ?_⟩
    · rw [List.map_cons]
      conv => lhs; unfold forLoop
      simp [-forLoop, e1]
      exact f1
    · rw [f4, e4]
      constructor
      · rintro ⟨⟨h1, h2⟩, h3⟩
        refine ⟨h1, fun b hb => ?_⟩
        rcases List.mem_cons.mp hb with rfl | hb
        · exact h2
        · exact h3 b hb
      · rintro ⟨h1, h2⟩
        exact ⟨⟨h1, h2 a List.mem_cons_self⟩, fun b hb => h2 b (List.mem_cons_of_mem _ hb)⟩
theorem G_let_eq {as : List Ask} (h : ∀ a ∈ as, AskOk a) (w : W) : ∃ o q, G_slopes_let [.tup (as.map encAsk)] w = some (.tup [encR o, encR q], w) ∧ (∀ r, o = some r → Sz 40 r) ∧ (∀ r, q = some r → Sz 40 r) ∧ ∀ t, ends o q t ↔ ∀ a ∈ as, a.up t := by
  obtain ⟨o, q, z1, f1, f2, f3, f4⟩ := let_walk (some (.tup (as.map encAsk))) w as none none none h (fun _ z => nomatch z) (fun _ z => nomatch z)
  refine ⟨o, q, ?_, f2, f3, fun t => ?_⟩
  · have e : xFor (yTup (xVar 0)) (xName 1) letB [some (.tup (as.map encAsk)), none, some .non, some .non] w = some (.nx [some (.tup (as.map encAsk)), z1, some (encR o), some (encR q)] w) := f1
    unfold G_slopes_let
    refine (xDef_eq (n := 1) (as := [_]) rfl).trans ?_
    show xDef.xRun (xSeq (xAsg (xTup (xConsA (xC .non) (xConsA (xC .non) (xNilA)))) (xTupG (xConsG (xName 2) (xConsG (xName 3) (xNilG))))) (xSeq (xFor (yTup (xVar 0)) (xName 1) letB) (xRet (xTup (xConsA (xVar 2) (xConsA (xVar 3) (xNilA)))))) _ w) = _
    simp [-xFor, e]
  · rw [f4]
    exact ⟨fun h => h.2, fun h => ⟨And.intro (fun _ z => (nomatch z)) (fun _ z => (nomatch z)), h⟩⟩
/-! ### what all ask together -/
structure Sem (hd : Rat) (as : List Ask) (t : R) : Prop where
  up : ∀ a ∈ as, a.up t
  head : ∀ u ∈ as, u.steep = false → u.least = false → Bd (famHead (1 / (4 * hd))) t (bv u.line t)
  pair : ∀ u ∈ as, u.steep = false → u.least = false → ∀ l ∈ as, l.steep = false → l.least = true → Bd l.fam t (bv u.line t)
def plist (as : List Ask) : List (Int × Ask) := (numbered as).filter fun p => !p.2.steep
def encPl3 (p : Int × Ask) : A := .tup [.int p.1, .lst (p.2.parts.map encP), .bl p.2.least]
def lowOf (p : Int × Ask) : Low := ⟨.int p.1, p.2.parts, p.2.fam⟩
def uppOf (p : Int × Ask) : Upp := ⟨.int p.1, p.2.line⟩
def headLow (hd : Rat) : Low := ⟨.non, [⟨none, none, ⟨1 / (4 * hd), 0, 1 / (4 * hd)⟩⟩], famHead (1 / (4 * hd))⟩
theorem plist_mem {as : List Ask} {p : Int × Ask} (h : p ∈ plist as) : p.2 ∈ as ∧ p.2.steep = false := by
  obtain ⟨h1, h2⟩ := List.mem_filter.mp h
  exact ⟨numbered_mem h1, by simpa using h2⟩
theorem mem_plist {as : List Ask} {a : Ask} (h : a ∈ as) (hs : a.steep = false) : ∃ p ∈ plist as, p.2 = a := by
  obtain ⟨p, h1, h2⟩ := mem_numbered h
  exact ⟨p, List.mem_filter.mpr ⟨h1, by rw [h2, hs]; rfl⟩, h2⟩
theorem xLc_eq {gi : GI} {g : GG} {gt : GT} {ge : GE} {own : List Nat} {ss : SS} {w : W} {xs rs : List A} (h1 : gi ss w = some (xs, w)) (h2 : xs.length ≤ 10000) (h3 : lcLoop g gt ge (wipeS ss own) xs w = some (rs, w)) : xLc gi g gt ge own ss w = some (.lst rs, w) := by
  unfold xLc
  rw [h1]
  dsimp only [Option.bind_some]
  rw [if_pos (show small xs.length = true from decide_eq_true h2), h3]
  rfl
theorem xAsg_eq {ge : GE} {i : Nat} {ss : SS} {w : W} {a : A} (h : ge ss w = some (a, w)) : xAsg ge (xName i) ss w = some (.nx (ss.set i (some a)) w) := by
  unfold xAsg
  rw [h]
  rfl
theorem xSeq_eq {g h : GS} {ss ss1 : SS} {w w1 : W} (h1 : g ss w = some (.nx ss1 w1)) : xSeq g h ss w = h ss1 w1 := by
  unfold xSeq
  rw [h1]
  rfl
theorem G_bounds_eq {hd : Rat} {as : List Ask} (h0 : 0 < hd) (hh : Sz 100 hd) (h : ∀ a ∈ as, AskOk a) (hn : as.length ≤ 100) {w : W} (hw : A.plain w = true) {o q : Option Rat} (hlet : G_slopes_let [.tup (as.map encAsk)] w = some (.tup [encR o, encR q], w)) :
    G_bounds [enc hd, .tup (as.map encAsk)] w = some (.ins (.lst ((headLow hd :: ((plist as).filter fun p => p.2.least).map lowOf).map encLow)) (.lst ((((plist as).filter fun p => !p.2.least).map uppOf).map encUpp)) (.tup [encR o, encR q]), w) := by
  have nl : (numbered as).length ≤ 100 := by
    have := congrArg List.length (numbered_snd as)
    rw [List.length_map] at this
    omega
  have pl1 : (plist as).length ≤ 100 := Nat.le_trans (List.length_filter_le _ _) nl
  have i1 : B_init1 ([none, some (enc hd), some (.tup (as.map encAsk))] ++ List.replicate (9 - 3) none) w = some (.nx [none, some (enc hd), some (.tup (as.map encAsk)), some (.lst ((plist as).map encPl3)), none, none, none, none, none] w) := by
    have e := lc_map (g := xTupG (xConsG (xName 5) (xConsG (xName 6) (xNilG)))) (gt := xNot (xT (xCall G_is_steep (xConsA (xVar 6) (xNilA))))) (ge := xTup (xConsA (xVar 5) (xConsA (xCall G_parts_of (xConsA (xVar 6) (xNilA))) (xConsA (xCall G_is_least (xConsA (xVar 6) (xNilA))) (xNilA))))) (s0 := [none, some (enc hd), some (.tup (as.map encAsk)), none, none, none, none, none, none]) (w := w)
      (fun p : Int × Ask => .tup [.int p.1, encAsk p.2]) (fun p => [none, some (enc hd), some (.tup (as.map encAsk)), none, none, some (.int p.1), some (encAsk p.2), none, none]) (fun p => !p.2.steep) encPl3 (numbered as) (fun p hp => ⟨rfl, by simp [G_steep_eq], fun hb => by
        have hs : p.2.steep = false := by simpa using hb
        simp [G_parts_eq (h _ (numbered_mem hp)) hs hw, G_least_eq]
        rfl⟩)
    rw [← pairs_numbered] at e
    have sm : (pairs (nums 0 as.length) (as.map encAsk)).length ≤ 10000 := by
      rw [pairs_numbered, List.length_map]
      omega
    refine xAsg_eq (xLc_eq (xs := pairs (nums 0 as.length) (as.map encAsk)) ?_ sm e)
    have el : (as.map encAsk).length = as.length := List.length_map _
    show some (pairs (nums 0 (as.map encAsk).length) (as.map encAsk), w) = _
    rw [el]
  have i2 : B_init2 [none, some (enc hd), some (.tup (as.map encAsk)), some (.lst ((plist as).map encPl3)), none, none, none, none, none] w = some (.nx [none, some (enc hd), some (.tup (as.map encAsk)), some (.lst ((plist as).map encPl3)), some (.lst [encP ⟨none, none, ⟨1 / (4 * hd), 0, 1 / (4 * hd)⟩⟩]), none, none, none, none] w) := by
    have nn : fIsN (enc hd) = some (.bl false) := rfl
    simp [B_init2, -fIsN, nn, G_head_parts_eq hh h0]
  have st : ∀ (p : Int × Ask) (s0 : SS), (xTupG (xConsG (xName 5) (xConsG (xName 7) (xConsG (xName 8) (xNilG))))) (encPl3 p) s0 = some (((s0.set 5 (some (.int p.1))).set 7 (some (.lst (p.2.parts.map encP)))).set 8 (some (.bl p.2.least))) := fun p s0 => rfl
  have i3 : E_lowers [none, some (enc hd), some (.tup (as.map encAsk)), some (.lst ((plist as).map encPl3)), some (.lst [encP ⟨none, none, ⟨1 / (4 * hd), 0, 1 / (4 * hd)⟩⟩]), none, none, none, none] w = some (.lst ((headLow hd :: ((plist as).filter fun p => p.2.least).map lowOf).map encLow), w) := by
    have e := lc_map (g := xTupG (xConsG (xName 5) (xConsG (xName 7) (xConsG (xName 8) (xNilG))))) (gt := xT (xVar 8)) (ge := xTup (xConsA (xVar 5) (xConsA (xVar 7) (xNilA)))) (s0 := [none, some (enc hd), some (.tup (as.map encAsk)), some (.lst ((plist as).map encPl3)), some (.lst [encP ⟨none, none, ⟨1 / (4 * hd), 0, 1 / (4 * hd)⟩⟩]), none, none, none, none]) (w := w)
      encPl3 (fun p => [none, some (enc hd), some (.tup (as.map encAsk)), some (.lst ((plist as).map encPl3)), some (.lst [encP ⟨none, none, ⟨1 / (4 * hd), 0, 1 / (4 * hd)⟩⟩]), some (.int p.1), none, some (.lst (p.2.parts.map encP)), some (.bl p.2.least)]) (fun p => p.2.least) (fun p => encLow (lowOf p)) (plist as) (fun p hp => ⟨rfl, rfl, fun _ => rfl⟩)
    have e2 : xLc (yLst (xVar 3)) (xTupG (xConsG (xName 5) (xConsG (xName 7) (xConsG (xName 8) (xNilG))))) (xT (xVar 8)) (xTup (xConsA (xVar 5) (xConsA (xVar 7) (xNilA)))) [5, 7, 8] [none, some (enc hd), some (.tup (as.map encAsk)), some (.lst ((plist as).map encPl3)), some (.lst [encP ⟨none, none, ⟨1 / (4 * hd), 0, 1 / (4 * hd)⟩⟩]), none, none, none, none] w = some (.lst (((plist as).filter fun p => p.2.least).map fun p => encLow (lowOf p)), w) :=
      xLc_eq (xs := (plist as).map encPl3) rfl (by rw [List.length_map]; omega) e
    have sz : (((plist as).filter fun p => p.2.least).map fun p => encLow (lowOf p)).length ≤ 100 := by
      rw [List.length_map]
      exact Nat.le_trans (List.length_filter_le _ _) pl1
    have sz2 : ((plist as).filter fun p => p.2.least).length ≤ 100 := Nat.le_trans (List.length_filter_le _ _) pl1
    unfold E_lowers xOp
    rw [show xLst (xConsA (xTup (xConsA (xC .non) (xConsA (xVar 4) (xNilA)))) (xNilA)) [none, some (enc hd), some (.tup (as.map encAsk)), some (.lst ((plist as).map encPl3)), some (.lst [encP ⟨none, none, ⟨1 / (4 * hd), 0, 1 / (4 * hd)⟩⟩]), none, none, none, none] w = some (.lst [encLow (headLow hd)], w) from rfl]
    dsimp only [Option.bind_some]
    rw [e2]
    dsimp only [Option.bind_some]
    have e3 : fAdd (.lst [encLow (headLow hd)]) (.lst (((plist as).filter fun p => p.2.least).map fun p => encLow (lowOf p))) = some (.lst ((headLow hd :: ((plist as).filter fun p => p.2.least).map lowOf).map encLow)) := by
      show (if small ([encLow (headLow hd)].length + (((plist as).filter fun p => p.2.least).map fun p => encLow (lowOf p)).length) then some (A.lst ([encLow (headLow hd)] ++ (((plist as).filter fun p => p.2.least).map fun p => encLow (lowOf p)))) else none) = _
      have hsm : small ([encLow (headLow hd)].length + (((plist as).filter fun p => p.2.least).map fun p => encLow (lowOf p)).length) = true := decide_eq_true (by rw [List.length_singleton]; omega)
      rw [if_pos hsm]
      simp
    rw [e3]
    rfl
  have i4 : E_uppers [none, some (enc hd), some (.tup (as.map encAsk)), some (.lst ((plist as).map encPl3)), some (.lst [encP ⟨none, none, ⟨1 / (4 * hd), 0, 1 / (4 * hd)⟩⟩]), none, none, none, none] w = some (.lst ((((plist as).filter fun p => !p.2.least).map uppOf).map encUpp), w) := by
    have e := lc_map (g := xTupG (xConsG (xName 5) (xConsG (xName 7) (xConsG (xName 8) (xNilG))))) (gt := xNot (xT (xVar 8))) (ge := xTup (xConsA (xVar 5) (xConsA (xOp fIx (xOp fIx (xVar 7) (xC (.int 0))) (xC (.int 2))) (xNilA)))) (s0 := [none, some (enc hd), some (.tup (as.map encAsk)), some (.lst ((plist as).map encPl3)), some (.lst [encP ⟨none, none, ⟨1 / (4 * hd), 0, 1 / (4 * hd)⟩⟩]), none, none, none, none]) (w := w)
      encPl3 (fun p => [none, some (enc hd), some (.tup (as.map encAsk)), some (.lst ((plist as).map encPl3)), some (.lst [encP ⟨none, none, ⟨1 / (4 * hd), 0, 1 / (4 * hd)⟩⟩]), some (.int p.1), none, some (.lst (p.2.parts.map encP)), some (.bl p.2.least)]) (fun p => !p.2.least) (fun p => encUpp (uppOf p)) (plist as) (fun p hp => ⟨rfl, rfl, fun hb => by
        have hl : p.2.least = false := by simpa using hb
        obtain ⟨z, z1, z2⟩ := Option.bind_eq_some_iff.mp (line_ix hl)
        simp [-fIx, z1, z2]
        rfl⟩)
    rw [List.map_map]
    exact xLc_eq (xs := (plist as).map encPl3) rfl (by rw [List.length_map]; omega) e
  have i5 : E_let [none, some (enc hd), some (.tup (as.map encAsk)), some (.lst ((plist as).map encPl3)), some (.lst [encP ⟨none, none, ⟨1 / (4 * hd), 0, 1 / (4 * hd)⟩⟩]), none, none, none, none] w = some (.tup [encR o, encR q], w) := hlet
  have B : B_bounds ([none, some (enc hd), some (.tup (as.map encAsk))] ++ List.replicate (9 - 3) none) w = some (.rt (.ins (.lst ((headLow hd :: ((plist as).filter fun p => p.2.least).map lowOf).map encLow)) (.lst ((((plist as).filter fun p => !p.2.least).map uppOf).map encUpp)) (.tup [encR o, encR q])) w) := by
    unfold B_bounds
    rw [xSeq_eq i1, xSeq_eq i2]
    unfold xRet xIns
    rw [i3]
    dsimp only [Option.bind_some]
    rw [i4]
    dsimp only [Option.bind_some]
    rw [i5]
    rfl
  show (match B_bounds ([none, some (enc hd), some (.tup (as.map encAsk))] ++ List.replicate (9 - 3) none) w with
    | some (.rt z w1) => some (z, w1)
    | _ => none) = _
  rw [B]
theorem G_slopes_eq {hd : Rat} {as : List Ask} (h0 : 0 < hd) (hh : Sz 100 hd) (h : ∀ a ∈ as, AskOk a) (hn : as.length ≤ 100) {w : W} (hw : A.plain w = true) : ∃ c, G_slopes_of [enc hd, .tup (as.map encAsk)] w = some (c, w) ∧ IsSpan 8891 c (Sem hd as) := by
  obtain ⟨o, q, e1, e2, e3, e4⟩ := G_let_eq h w
  have B := G_bounds_eq h0 hh h hn hw e1
  have hu : ∀ u ∈ ((plist as).filter fun p => !p.2.least).map uppOf, BtOk 740 u.b ∧ u.b.e = 0 := fun u hu => by
    obtain ⟨p, hp, rfl⟩ := List.mem_map.mp hu
    obtain ⟨h1, h2⟩ := List.mem_filter.mp hp
    obtain ⟨h3, h4⟩ := plist_mem h1
    exact line_ok (h _ h3) h4 (by simpa using h2)
  have w4 := inv_pos4 h0
  have hl : ∀ l ∈ headLow hd :: ((plist as).filter fun p => p.2.least).map lowOf, LowOk l := fun l hl => by
    rcases List.mem_cons.mp hl with rfl | hl
    · refine ⟨pieces_head w4, fun p hp => ?_⟩
      rw [List.mem_singleton.mp hp]
      have sW : Sz 104 (1 / (4 * hd)) := (sz_one.div (sz4.mul hh) (by grind)).mono (by omega)
      exact partOk1 (n := 200) ⟨sW.mono (by omega), sz0.mono (by omega), sW.mono (by omega)⟩ (by omega) (by grind)
    · obtain ⟨p, hp, rfl⟩ := List.mem_map.mp hl
      obtain ⟨h1, h2⟩ := List.mem_filter.mp hp
      obtain ⟨h3, h4⟩ := plist_mem h1
      exact ⟨pieces_ask (h _ h3) h4, parts_ok (h _ h3) h4⟩
  obtain ⟨c, f1, f2⟩ := G_stretch_eq hu hl e2 e3 w
  refine ⟨c, ?_, f2.iff fun t => ?_⟩
  · have s : G_slopes0 [enc hd, .tup (as.map encAsk)] w = some (c, w) := by
      unfold G_slopes0
      rw [B]
      exact f1
    simp [G_slopes_of, s]
  · rw [e4]
    constructor
    · rintro ⟨h1, h2⟩
      refine ⟨h1, fun u hu su lu => ?_, fun u hu su lu l hl sl ll => ?_⟩
      · obtain ⟨p, hp, rfl⟩ := mem_plist hu su
        exact h2 _ List.mem_cons_self (uppOf p) (List.mem_map.mpr ⟨p, List.mem_filter.mpr ⟨hp, by rw [lu]; rfl⟩, rfl⟩)
      · obtain ⟨p, hp, rfl⟩ := mem_plist hu su
        obtain ⟨r, hr, rfl⟩ := mem_plist hl sl
        exact h2 (lowOf r) (List.mem_cons_of_mem _ (List.mem_map.mpr ⟨r, List.mem_filter.mpr ⟨hr, ll⟩, rfl⟩)) (uppOf p) (List.mem_map.mpr ⟨p, List.mem_filter.mpr ⟨hp, by rw [lu]; rfl⟩, rfl⟩)
    · rintro ⟨h1, h2, h3⟩
      refine ⟨h1, fun l hl u hu => ?_⟩
      obtain ⟨p, hp, rfl⟩ := List.mem_map.mp hu
      obtain ⟨hp1, hp2⟩ := List.mem_filter.mp hp
      obtain ⟨hp3, hp4⟩ := plist_mem hp1
      have hp5 : p.2.least = false := by simpa using hp2
      rcases List.mem_cons.mp hl with rfl | hl
      · exact h2 _ hp3 hp4 hp5
      · obtain ⟨r, hr, rfl⟩ := List.mem_map.mp hl
        obtain ⟨hr1, hr2⟩ := List.mem_filter.mp hr
        obtain ⟨hr3, hr4⟩ := plist_mem hr1
        exact h3 _ hp3 hp4 hp5 _ hr3 hr4 hr2
end
end Sp
/-! LA 1: the law's spans. -/
namespace Sp
noncomputable section
def LEnd (n : Nat) (a : A) (o : Option R) : Prop := (a = .non ∧ o = none) ∨ ∃ b s r d x, a = encL b s r d ∧ LV n b s r d x ∧ o = some x
def LSpan (n : Nat) (a : A) (S : R → Prop) : Prop := (a = .non ∧ ∀ t, ¬ S t) ∨ ∃ lo hi l h, a = .tup [lo, hi] ∧ LEnd n lo l ∧ LEnd n hi h ∧ (∀ x y, l = some x → h = some y → x ≤ y) ∧ ∀ t, S t ↔ inI l h t
theorem LSpan.iff {n : Nat} {a : A} {S T : R → Prop} (h : LSpan n a S) (e : ∀ t, S t ↔ T t) : LSpan n a T := by
  have : S = T := funext fun t => propext (e t)
  rwa [← this]
theorem isN_encL (b s r d : Int) : fIsN (encL b s r d) = some (.bl false) := rfl
theorem notN_encL (b s r d : Int) : fNotN (encL b s r d) = some (.bl true) := rfl
def lowA : GE := xIf (xOr (xT (xUn fIsN (xVar 0))) (xAnd (xT (xUn fNotN (xOp fIx (xVar 6) (xC (.int 0))))) (xT (xOp fGt (xCall G__law_surd_order (xConsA (xOp fIx (xVar 6) (xC (.int 0))) (xConsA (xVar 0) (xNilA)))) (xC (.int 0)))))) (xOp fIx (xVar 6) (xC (.int 0))) (xVar 0)
def highA : GE := xIf (xOr (xT (xUn fIsN (xVar 1))) (xAnd (xT (xUn fNotN (xOp fIx (xVar 6) (xC (.int 1))))) (xT (xOp fLt (xCall G__law_surd_order (xConsA (xOp fIx (xVar 6) (xC (.int 1))) (xConsA (xVar 1) (xNilA)))) (xC (.int 0)))))) (xOp fIx (xVar 6) (xC (.int 1))) (xVar 1)
theorem low_eq {n : Nat} {a e0 : A} {l p : Option R} (ha : LEnd n a l) (hp : LEnd n e0 p) (hn : n ≤ 30000) (w : W) : ∃ c o, (∀ (ss : SS) (e1 : A), ss[0]? = some (some a) → ss[6]? = some (some (.tup [e0, e1])) → lowA ss w = some (c, w)) ∧ LEnd n c o ∧ ∀ t, (∀ x, o = some x → x ≤ t) ↔ ((∀ x, l = some x → x ≤ t) ∧ ∀ x, p = some x → x ≤ t) := by
  have fn : fIsN A.non = some (.bl true) ∧ fNotN A.non = some (.bl false) := ⟨rfl, rfl⟩
  rcases ha with ⟨rfl, rfl⟩ | ⟨b, s, r, d, x, rfl, hx, rfl⟩
  · exact ⟨e0, p, fun ss e1 h g => by simp [lowA, h, g], hp, fun t => by simp⟩
  · rcases hp with ⟨rfl, rfl⟩ | ⟨b', s', r', d', y, rfl, hy, rfl⟩
    · exact ⟨encL b s r d, some x, fun ss e1 h g => by simp [lowA, h, g, -fIsN, -fNotN, isN_encL, fn], .inr ⟨b, s, r, d, x, rfl, hx, rfl⟩, fun t => by simp⟩
    · have e := law_order (w := w) hy hx hn
      by_cases c : 0 < sg (y - x)
      · have c1 := sg_gt.mp c
        refine ⟨encL b' s' r' d', some y, fun ss e1 h g => by simp [lowA, h, g, -fIsN, -fNotN, isN_encL, notN_encL, fn, e, c], .inr ⟨b', s', r', d', y, rfl, hy, rfl⟩, fun t => ?_⟩
        simp
        intro
        grind
      · have c1 : ¬ 0 < y - x := fun z => c (sg_gt.mpr z)
        refine ⟨encL b s r d, some x, fun ss e1 h g => by simp [lowA, h, g, -fIsN, -fNotN, isN_encL, notN_encL, fn, e, c], .inr ⟨b, s, r, d, x, rfl, hx, rfl⟩, fun t => ?_⟩
        simp
        intro
        grind
theorem high_eq {n : Nat} {a e1 : A} {l p : Option R} (ha : LEnd n a l) (hp : LEnd n e1 p) (hn : n ≤ 30000) (w : W) : ∃ c o, (∀ (ss : SS) (e0 : A), ss[1]? = some (some a) → ss[6]? = some (some (.tup [e0, e1])) → highA ss w = some (c, w)) ∧ LEnd n c o ∧ ∀ t, (∀ x, o = some x → t ≤ x) ↔ ((∀ x, l = some x → t ≤ x) ∧ ∀ x, p = some x → t ≤ x) := by
  have fn : fIsN A.non = some (.bl true) ∧ fNotN A.non = some (.bl false) := ⟨rfl, rfl⟩
  rcases ha with ⟨rfl, rfl⟩ | ⟨b, s, r, d, x, rfl, hx, rfl⟩
  · exact ⟨e1, p, fun ss e1 h g => by simp [highA, h, g], hp, fun t => by simp⟩
  · rcases hp with ⟨rfl, rfl⟩ | ⟨b', s', r', d', y, rfl, hy, rfl⟩
    · exact ⟨encL b s r d, some x, fun ss e1 h g => by simp [highA, h, g, -fIsN, -fNotN, isN_encL, fn], .inr ⟨b, s, r, d, x, rfl, hx, rfl⟩, fun t => by simp⟩
    · have e := law_order (w := w) hy hx hn
      by_cases c : sg (y - x) < 0
      · have c1 := sg_lt.mp c
        refine ⟨encL b' s' r' d', some y, fun ss e1 h g => by simp [highA, h, g, -fIsN, -fNotN, isN_encL, notN_encL, fn, e, c], .inr ⟨b', s', r', d', y, rfl, hy, rfl⟩, fun t => ?_⟩
        simp
        intro
        grind
      · have c1 : ¬ y - x < 0 := fun z => c (sg_lt.mpr z)
        refine ⟨encL b s r d, some x, fun ss e1 h g => by simp [highA, h, g, -fIsN, -fNotN, isN_encL, notN_encL, fn, e, c], .inr ⟨b, s, r, d, x, rfl, hx, rfl⟩, fun t => ?_⟩
        simp
        intro
        grind
def spanT : GS := xSeq (xAsg lowA (xName 0)) (xSeq (xAsg highA (xName 1)) (xSeq (xIfS (xAnd (xT (xUn fNotN (xVar 0))) (xAnd (xT (xUn fNotN (xVar 1))) (xT (xOp fGt (xCall G__law_surd_order (xConsA (xVar 0) (xConsA (xVar 1) (xNilA)))) (xC (.int 0)))))) (xRet (xC .non)) (xNext)) (xRet (xTup (xConsA (xVar 0) (xConsA (xVar 1) (xNilA)))))))
theorem span_tail {n : Nat} {lo hi e0 e1 : A} {l h p q : Option R} (hl : LEnd n lo l) (hh : LEnd n hi h) (h0 : LEnd n e0 p) (h1 : LEnd n e1 q) (hn : n ≤ 30000) (a b c x5 x7 : Option A) (w : W) : ∃ res, spanT [some lo, some hi, a, b, c, x5, some (.tup [e0, e1]), x7] w = some (.rt res w) ∧ LSpan n res fun t => inI l h t ∧ inI p q t := by
  obtain ⟨lo', o, f1, f2, f3⟩ := low_eq hl h0 hn w
  obtain ⟨hi', u, g1, g2, g3⟩ := high_eq hh h1 hn w
  have F := f1 [some lo, some hi, a, b, c, x5, some (.tup [e0, e1]), x7] e1 rfl rfl
  have G := g1 [some lo', some hi, a, b, c, x5, some (.tup [e0, e1]), x7] e0 rfl rfl
  have set : ∀ t, (inI l h t ∧ inI p q t) ↔ inI o u t := fun t => by
    unfold inI
    rw [f3, g3]
    constructor
    · rintro ⟨⟨p1, p2⟩, p3, p4⟩
      exact ⟨⟨p1, p3⟩, p2, p4⟩
    · rintro ⟨⟨p1, p2⟩, p3, p4⟩
      exact ⟨⟨p1, p3⟩, p2, p4⟩
  have fn : fIsN A.non = some (.bl true) ∧ fNotN A.non = some (.bl false) := ⟨rfl, rfl⟩
  unfold spanT
  rw [xSeq_eq (xAsg_eq F)]
  have G' : xAsg highA (xName 1) [some lo', some hi, a, b, c, x5, some (.tup [e0, e1]), x7] w = some (.nx [some lo', some hi', a, b, c, x5, some (.tup [e0, e1]), x7] w) := xAsg_eq G
  show ∃ res, xSeq (xAsg highA (xName 1)) _ [some lo', some hi, a, b, c, x5, some (.tup [e0, e1]), x7] w = _ ∧ _
  rw [xSeq_eq G']
  rcases f2 with ⟨rfl, rfl⟩ | ⟨b1, s1, r1, d1, x, rfl, hx, rfl⟩
  · exact ⟨.tup [.non, hi'], by simp, .inr ⟨_, _, _, _, rfl, .inl ⟨rfl, rfl⟩, g2, fun _ _ z => (nomatch z), set⟩⟩
  · rcases g2 with ⟨rfl, rfl⟩ | ⟨b2, s2, r2, d2, y, rfl, hy, rfl⟩
    · exact ⟨.tup [encL b1 s1 r1 d1, .non], by simp [-fNotN, notN_encL, fn], .inr ⟨_, _, _, _, rfl, .inr ⟨_, _, _, _, _, rfl, hx, rfl⟩, .inl ⟨rfl, rfl⟩, fun _ _ _ z => (nomatch z), set⟩⟩
    · have e := law_order (w := w) hx hy hn
      by_cases c : 0 < sg (x - y)
      · have c1 := sg_gt.mp c
        refine ⟨.non, by simp [-fNotN, notN_encL, e, c], .inl ⟨rfl, fun t z => ?_⟩⟩
        obtain ⟨p1, p2⟩ := (set t).mp z
        have q1 := p1 _ rfl
        have q2 := p2 _ rfl
        grind
      · have c1 : ¬ 0 < x - y := fun z => c (sg_gt.mpr z)
        exact ⟨.tup [encL b1 s1 r1 d1, encL b2 s2 r2 d2], by simp [-fNotN, notN_encL, e, c], .inr ⟨_, _, _, _, rfl, .inr ⟨_, _, _, _, _, rfl, hx, rfl⟩, .inr ⟨_, _, _, _, _, rfl, hy, rfl⟩, fun p q z1 z2 => by cases z1; cases z2; grind, set⟩⟩
theorem LV.mk' {n : Nat} {b s r d : Int} (d0 : 0 < d) (r0 : 0 ≤ r) (hb : IS n b) (hs : IS n s) (hr : IS n r) (hd : IS n d) : LV n b s r d (io (1 / (d : Rat)) * (ii b + ii s * ri r)) := by
  refine ⟨d0, r0, ?_, hb, hs, hr, hd⟩
  have : ii d * io (1 / (d : Rat)) = 1 := by
    unfold ii
    rw [← io_mul]
    have hd : (d : Rat) ≠ 0 := fun z => by
      have := Rat.intCast_eq_zero_iff.mp z
      omega
    have e : (d : Rat) * (1 / (d : Rat)) = 1 := by grind
    rw [e]
    rfl
  grind
/-- a t t + b t + c -/
def iq (a b c : Int) (t : R) : R := ii a * (t * t) + ii b * t + ii c
def spanP1 : GS := xIfS (xAnd (xT (xOp fEq (xVar 2) (xC (.int 0)))) (xT (xOp fEq (xVar 3) (xC (.int 0))))) (xRet (xIf (xT (xOp fGe (xVar 4) (xC (.int 0)))) (xTup (xConsA (xVar 0) (xConsA (xVar 1) (xNilA)))) (xC .non))) (xNext)
def spanP2 : GS := xIfS (xT (xOp fEq (xVar 2) (xC (.int 0)))) (xSeq (xAsg (xIf (xT (xOp fGt (xVar 3) (xC (.int 0)))) (xTup (xConsA (xOp fSub (xC (.int 0)) (xVar 4)) (xConsA (xC (.int 0)) (xConsA (xC (.int 0)) (xConsA (xVar 3) (xNilA)))))) (xTup (xConsA (xVar 4) (xConsA (xC (.int 0)) (xConsA (xC (.int 0)) (xConsA (xOp fSub (xC (.int 0)) (xVar 3)) (xNilA))))))) (xName 5))
  (xAsg (xIf (xT (xOp fGt (xVar 3) (xC (.int 0)))) (xTup (xConsA (xVar 5) (xConsA (xC .non) (xNilA)))) (xTup (xConsA (xC .non) (xConsA (xVar 5) (xNilA))))) (xName 6))) (xSeq (xAsg (xOp fSub (xOp fMul (xVar 3) (xVar 3)) (xOp fMul (xOp fMul (xC (.int 4)) (xVar 2)) (xVar 4))) (xName 7))
  (xSeq (xIfS (xT (xOp fLt (xVar 7) (xC (.int 0)))) (xRet (xC .non)) (xNext))
  (xAsg (xTup (xConsA (xTup (xConsA (xVar 3) (xConsA (xUn fNeg (xC (.int 1))) (xConsA (xVar 7) (xConsA (xOp fSub (xC (.int 0)) (xOp fMul (xC (.int 2)) (xVar 2))) (xNilA)))))) (xConsA (xTup (xConsA (xVar 3) (xConsA (xC (.int 1)) (xConsA (xVar 7) (xConsA (xOp fSub (xC (.int 0)) (xOp fMul (xC (.int 2)) (xVar 2))) (xNilA)))))) (xNilA)))) (xName 6))))
theorem span_split : B__law_span = xSeq spanP1 (xSeq spanP2 spanT) := rfl
theorem span_run {lo hi : A} {a b c : Int} {ss : SS} {res : A} {w : W} (h1 : spanP1 [some lo, some hi, some (.int a), some (.int b), some (.int c), none, none, none] w = some (.nx [some lo, some hi, some (.int a), some (.int b), some (.int c), none, none, none] w)) (h2 : spanP2 [some lo, some hi, some (.int a), some (.int b), some (.int c), none, none, none] w = some (.nx ss w)) (h3 : spanT ss w = some (.rt res w)) : G__law_span [lo, hi, .int a, .int b, .int c] w = some (res, w) := by
  unfold G__law_span
  refine (xDef_eq (n := 5) (as := [_, _, _, _, _]) rfl).trans ?_
  show xDef.xRun (B__law_span [some lo, some hi, some (.int a), some (.int b), some (.int c), none, none, none] w) = _
  rw [span_split, xSeq_eq h1, xSeq_eq h2, h3]
  rfl
theorem G__law_span_eq {N : Nat} {lo hi : A} {l h : Option R} {a b c : Int} (hl : LEnd (2 * N + 4) lo l) (hh : LEnd (2 * N + 4) hi h) (hlh : ∀ x y, l = some x → h = some y → x ≤ y) (ha : IS N a) (hb : IS N b) (hc : IS N c) (a0 : a ≤ 0) (hN : N ≤ 10000) (w : W) :
    ∃ res, G__law_span [lo, hi, .int a, .int b, .int c] w = some (res, w) ∧ LSpan (2 * N + 4) res fun t => inI l h t ∧ 0 ≤ iq a b c t := by
  have z1 : IS (2 * N + 4) 0 := show (0 : Int).natAbs < 2 ^ _ by simp; exact Nat.two_pow_pos _
  have z2 : IS (2 * N + 4) 1 := show (1 : Int).natAbs < 2 ^ _ from Nat.one_lt_two_pow (by omega)
  have z3 : IS (2 * N + 4) (-1) := z2.neg
  by_cases ha0 : a = 0
  · subst ha0
    by_cases hb0 : b = 0
    · subst hb0
      have val : ∀ t, iq 0 0 c t = ii c := fun t => by
        unfold iq
        rw [ii_zero]
        grind
      by_cases hc0 : 0 ≤ c
      · refine ⟨.tup [lo, hi], by simp [G__law_span, B__law_span, hc0], .inr ⟨lo, hi, l, h, rfl, hl, hh, hlh, fun t => ?_⟩⟩
        show inI l h t ∧ 0 ≤ iq 0 0 c t ↔ _
        rw [val]
        exact ⟨fun z => z.1, fun z => ⟨z, ii_le (a := 0) |>.mpr hc0⟩⟩
      · refine ⟨.non, by simp [G__law_span, B__law_span, hc0], .inl ⟨rfl, fun t z => ?_⟩⟩
        have z : inI l h t ∧ 0 ≤ iq 0 0 c t := z
        rw [val] at z
        exact hc0 (ii_le (a := 0) |>.mp z.2)
    · have val : ∀ t, iq 0 b c t = ii b * t + ii c := fun t => by
        unfold iq
        rw [ii_zero]
        grind
      by_cases hb1 : 0 < b
      · have L := LV.mk' (n := 2 * N + 4) (b := 0 - c) (s := 0) (r := 0) (d := b) hb1 (by omega) ((by rw [Int.zero_sub]; exact hc.neg.mono (by omega))) z1 z1 (hb.mono (by omega))
        generalize io (1 / (b : Rat)) * (ii (0 - c) + ii 0 * ri 0) = x at L
        obtain ⟨res, r1, r2⟩ := span_tail hl hh (.inr ⟨_, _, _, _, x, rfl, L, rfl⟩) (.inl ⟨rfl, rfl⟩) (by omega) (some (.int 0)) (some (.int b)) (some (.int c)) (some (encL (0 - c) 0 0 b)) none w
        refine ⟨res, span_run (by simp [spanP1, hb0]) (by simp [spanP2, hb1]; rfl) r1, r2.iff fun t => ?_⟩
        have e := L.eq
        have pb := ii_pos.mpr hb1
        rw [ii_sub, ii_zero] at e
        rw [val]
        have key : inI (some x) none t ↔ 0 ≤ ii b * t + ii c := by
          constructor
          · intro z
            have := z.1 _ rfl
            have := R.mul_nonneg (a := ii b) (b := t - x) (by grind) (by grind)
            grind
          · refine fun z => And.intro (fun y hy => ?_) (fun _ z => (nomatch z))
            cases hy
            refine R.not_lt.mp fun q => ?_
            have := R.mul_pos pb (b := x - t) (by grind)
            grind
        rw [key]
      · have hb2 : 0 < 0 - b := by omega
        have L := LV.mk' (n := 2 * N + 4) (b := c) (s := 0) (r := 0) (d := 0 - b) hb2 (by omega) (hc.mono (by omega)) z1 z1 (by rw [Int.zero_sub]; exact hb.neg.mono (by omega))
        generalize io (1 / ((0 - b : Int) : Rat)) * (ii c + ii 0 * ri 0) = x at L
        obtain ⟨res, r1, r2⟩ := span_tail hl hh (.inl ⟨rfl, rfl⟩) (.inr ⟨_, _, _, _, x, rfl, L, rfl⟩) (by omega) (some (.int 0)) (some (.int b)) (some (.int c)) (some (encL c 0 0 (0 - b))) none w
        refine ⟨res, span_run (by simp [spanP1, hb0]) (by simp [spanP2, hb1]; rfl) r1, r2.iff fun t => ?_⟩
        have e := L.eq
        have pb := ii_pos.mpr hb2
        rw [ii_sub, ii_zero] at e pb
        rw [val]
        have key : inI none (some x) t ↔ 0 ≤ ii b * t + ii c := by
          constructor
          · intro z
            have := z.2 _ rfl
            have := R.mul_nonneg (a := 0 - ii b) (b := x - t) (by grind) (by grind)
            grind
          · refine fun z => And.intro (fun _ z => (nomatch z)) (fun y hy => ?_)
            cases hy
            refine R.not_lt.mp fun q => ?_
            have := R.mul_pos pb (b := t - x) (by grind)
            grind
        rw [key]
  · have i4 : IS 3 (4 : Int) := show (4 : Int).natAbs < 2 ^ 3 by decide
    have i2 : IS 2 (2 : Int) := show (2 : Int).natAbs < 2 ^ 2 by decide
    have m1 := mulOk_of hb hb (by omega)
    have m2 := mulOk_of i4 ha (by omega)
    have m3 := mulOk_of (i4.mul ha) hc (by omega)
    have m4 := mulOk_of i2 ha (by omega)
    have U : IS (2 * N + 4) (b * b - 4 * a * c) := ((hb.mul hb).mono (n := 2 * N + 3) (by omega)).sub (((i4.mul ha).mul hc).mono (by omega))
    have D : IS (2 * N + 4) (0 - 2 * a) := by
      rw [Int.zero_sub]
      exact (i2.mul ha).neg.mono (by omega)
    have d0 : 0 < 0 - 2 * a := by omega
    have pd := ii_pos.mpr d0
    have sq : ∀ t, (ii (0 - 2 * a) + ii (0 - 2 * a)) * iq a b c t = ii (b * b - 4 * a * c) - (ii (0 - 2 * a) * t - ii b) * (ii (0 - 2 * a) * t - ii b) := fun t => by
      unfold iq
      have f : ii 4 = 4 := rfl
      rw [ii_sub, ii_sub, ii_mul, ii_mul, ii_mul, ii_mul, ii_zero, ii_two, f]
      grind
    have pos : ∀ t, 0 ≤ iq a b c t ↔ (ii (0 - 2 * a) * t - ii b) * (ii (0 - 2 * a) * t - ii b) ≤ ii (b * b - 4 * a * c) := fun t => by
      have := sq t
      constructor
      · intro z
        have := R.mul_nonneg (a := ii (0 - 2 * a) + ii (0 - 2 * a)) (by grind) z
        grind
      · intro z
        refine R.not_lt.mp fun q => ?_
        have := R.mul_pos (a := ii (0 - 2 * a) + ii (0 - 2 * a)) (b := -iq a b c t) (by grind) (by grind)
        grind
    by_cases hu : b * b - 4 * a * c < 0
    · refine ⟨.non, ?_, .inl ⟨rfl, fun t z => ?_⟩⟩
      · simp [G__law_span, B__law_span, ha0, m1, m2, m3, hu]
      · have z1 := (pos t).mp z.2
        have z2 := R.sq_nonneg (ii (0 - 2 * a) * t - ii b)
        have z3 := ii_lt (b := 0) |>.mpr hu
        rw [ii_zero] at z3
        grind
    · have hu0 : 0 ≤ b * b - 4 * a * c := by omega
      have L0 := LV.mk' (n := 2 * N + 4) (b := b) (s := -1) (r := b * b - 4 * a * c) (d := 0 - 2 * a) d0 hu0 (hb.mono (by omega)) z3 U D
      have L1 := LV.mk' (n := 2 * N + 4) (b := b) (s := 1) (r := b * b - 4 * a * c) (d := 0 - 2 * a) d0 hu0 (hb.mono (by omega)) z2 U D
      generalize io (1 / ((0 - 2 * a : Int) : Rat)) * (ii b + ii (-1) * ri (b * b - 4 * a * c)) = x at L0
      generalize io (1 / ((0 - 2 * a : Int) : Rat)) * (ii b + ii 1 * ri (b * b - 4 * a * c)) = y at L1
      obtain ⟨res, r1, r2⟩ := span_tail hl hh (.inr ⟨_, _, _, _, x, rfl, L0, rfl⟩) (.inr ⟨_, _, _, _, y, rfl, L1, rfl⟩) (by omega) (some (.int a)) (some (.int b)) (some (.int c)) none (some (.int (b * b - 4 * a * c))) w
      refine ⟨res, span_run (by simp [spanP1, ha0]) (by simp [spanP2, ha0, m1, m2, m3, m4, hu, encL]) r1, r2.iff fun t => ?_⟩
      have e0 := L0.eq
      have e1 := L1.eq
      have n1 : ii (-1) = -1 := rfl
      rw [n1] at e0
      rw [ii_one] at e1
      rw [pos, ← ri_sq hu0]
      have rn := ri_nonneg (b * b - 4 * a * c)
      have sl := sq_le rn (x := ii (0 - 2 * a) * t - ii b)
      generalize ri (b * b - 4 * a * c) = s at *
      generalize ii (0 - 2 * a) = d at *
      have sl2 : (d * t - ii b) * (d * t - ii b) ≤ s * s ↔ -s ≤ d * t - ii b ∧ d * t - ii b ≤ s := by
        rw [← sl]
        constructor <;> intro z <;> grind
      rw [sl2]
      have key : inI (some x) (some y) t ↔ -s ≤ d * t - ii b ∧ d * t - ii b ≤ s := by
        constructor
        · intro z
          have a1 := z.1 _ rfl
          have a2 := z.2 _ rfl
          have b1 := R.mul_nonneg (a := d) (b := t - x) (by grind) (by grind)
          have b2 := R.mul_nonneg (a := d) (b := y - t) (by grind) (by grind)
          constructor <;> grind
        · rintro ⟨z1, z2⟩
          refine And.intro (fun _ k => ?_) (fun _ k => ?_)
          · cases k
            refine R.not_lt.mp fun q => ?_
            have := R.mul_pos pd (b := x - t) (by grind)
            grind
          · cases k
            refine R.not_lt.mp fun q => ?_
            have := R.mul_pos pd (b := t - y) (by grind)
            grind
      rw [key]
end
end Sp
/-! LA 2: the law's span of a lower and an upper. -/
namespace Sp
noncomputable section
/-- four whole numbers for a bent -/
structure Qd where
  c : Int
  d : Int
  e : Int
  m : Int
def encQ (q : Qd) : A := .tup [.int q.c, .int q.d, .int q.e, .int q.m]
structure QdOk (n : Nat) (q : Qd) (b : Bt) : Prop where
  m0 : 0 < q.m
  c : (q.c : Rat) = b.c * (q.m : Rat)
  d : (q.d : Rat) = b.d * (q.m : Rat)
  e : (q.e : Rat) = b.e * (q.m : Rat)
  ic : IS n q.c
  id : IS n q.d
  ie : IS n q.e
  im : IS n q.m
theorem QdOk.mono {m n : Nat} {q : Qd} {b : Bt} (h : QdOk m q b) (hn : m ≤ n) : QdOk n q b := ⟨h.m0, h.c, h.d, h.e, h.ic.mono hn, h.id.mono hn, h.ie.mono hn, h.im.mono hn⟩
structure LPart where
  p : Part
  q : Qd
def encLP (l : LPart) : A := .tup [encR l.p.lo, encR l.p.hi, encQ l.q]
structure LPOk (n : Nat) (l : LPart) : Prop where
  lo : ∀ r, l.p.lo = some r → Sz n r
  hi : ∀ r, l.p.hi = some r → Sz n r
  e : 0 ≤ l.p.b.e
  le : ∀ r s, l.p.lo = some r → l.p.hi = some s → r ≤ s
  q : QdOk n l.q l.p.b
theorem iq_eq {n : Nat} {u b : Bt} {x y : Qd} (hu : QdOk n x u) (hb : QdOk n y b) (t : R) : iq (x.e * y.m - y.e * x.m) (x.d * y.m - y.d * x.m) (x.c * y.m - y.c * x.m) t = ii x.m * ii y.m * (bv u t - bv b t) := by
  have f : ∀ {p : Int} {r : Rat} {m : Int}, (p : Rat) = r * (m : Rat) → ii p = io r * ii m := fun {p r m} h => by
    unfold ii
    rw [h, io_mul]
  unfold iq bv
  simp only [ii_sub, ii_mul]
  rw [f hu.c, f hu.d, f hu.e, f hb.c, f hb.d, f hb.e]
  grind
theorem lead_neg {n : Nat} {u b : Bt} {x y : Qd} (hu : QdOk n x u) (hb : QdOk n y b) (ue : u.e = 0) (be : 0 ≤ b.e) : x.e * y.m - y.e * x.m ≤ 0 := by
  have h1 : x.e = 0 := by
    have := hu.e
    rw [ue, Rat.zero_mul] at this
    exact Rat.intCast_eq_zero_iff.mp this
  have h2 : 0 ≤ y.e := by
    have h3 := hb.e
    have h4 := Rat.mul_nonneg be (Rat.intCast_nonneg.mpr (Int.le_of_lt hb.m0))
    rw [← h3] at h4
    exact Rat.intCast_nonneg.mp h4
  rw [h1, Int.zero_mul]
  have := Int.mul_nonneg h2 (Int.le_of_lt hu.m0)
  omega
theorem plain_LV {n : Nat} {r : Rat} (h : Sz n r) (hn : 1 ≤ n) : LV n r.num 0 0 r.den (io r) := by
  have z1 : IS n 0 := show (0 : Int).natAbs < 2 ^ _ by simp; exact Nat.two_pow_pos _
  refine ⟨by have := r.den_pos; omega, by omega, ?_, h.num, z1, z1, h.dn⟩
  rw [io_frac, ii_zero]
  grind
theorem G__law_plain_eq (r : Rat) (w : W) : G__law_plain [enc r] w = some (encL r.num 0 0 r.den, w) := by
  simp [G__law_plain, B__law_plain, enc, encL]
theorem plain_end {n : Nat} {o : Option Rat} (h : ∀ r, o = some r → Sz n r) (hn : 1 ≤ n) : ∃ c, (∀ (i : Nat) (ss : SS) (w : W), ss[i]? = some (some (encR o)) → xIf (xT (xUn fIsN (xVar i))) (xC .non) (xCall G__law_plain (xConsA (xVar i) (xNilA))) ss w = some (c, w)) ∧ LEnd n c (o.map io) := by
  cases o with
  | none => exact ⟨.non, fun i ss w g => by simp [g, encR], .inl ⟨rfl, rfl⟩⟩
  | some r =>
    have nn : fIsN (enc r) = some (.bl false) := rfl
    exact ⟨encL r.num 0 0 r.den, fun i ss w g => by simp [g, encR, -fIsN, nn, G__law_plain_eq], .inr ⟨_, _, _, _, _, rfl, plain_LV (h r rfl) hn, rfl⟩⟩
def psB : GS := xSeq (xAsg (xOp fSub (xOp fMul (xOp fIx (xVar 4) (xC (.int 2))) (xOp fIx (xVar 7) (xC (.int 3)))) (xOp fMul (xOp fIx (xVar 7) (xC (.int 2))) (xOp fIx (xVar 4) (xC (.int 3))))) (xName 8))
  (xSeq (xAsg (xOp fSub (xOp fMul (xOp fIx (xVar 4) (xC (.int 1))) (xOp fIx (xVar 7) (xC (.int 3)))) (xOp fMul (xOp fIx (xVar 7) (xC (.int 1))) (xOp fIx (xVar 4) (xC (.int 3))))) (xName 9))
  (xSeq (xAsg (xOp fSub (xOp fMul (xOp fIx (xVar 4) (xC (.int 0))) (xOp fIx (xVar 7) (xC (.int 3)))) (xOp fMul (xOp fIx (xVar 7) (xC (.int 0))) (xOp fIx (xVar 4) (xC (.int 3))))) (xName 10))
  (xSeq (xAsg (xIf (xT (xUn fIsN (xVar 5))) (xC .non) (xCall G__law_plain (xConsA (xVar 5) (xNilA)))) (xName 5))
  (xSeq (xAsg (xCall G__law_span (xConsA (xVar 5) (xConsA (xIf (xT (xUn fIsN (xVar 6))) (xC .non) (xCall G__law_plain (xConsA (xVar 6) (xNilA)))) (xConsA (xVar 8) (xConsA (xVar 9) (xConsA (xVar 10) (xNilA))))))) (xName 11))
  (xIfS (xT (xUn fNotN (xVar 11))) (xSeq (xIfS (xAnd (xT (xVar 2)) (xAnd (xT (xOp fEq (xVar 8) (xC (.int 0)))) (xAnd (xT (xOp fEq (xVar 9) (xC (.int 0)))) (xT (xOp fEq (xVar 10) (xC (.int 0))))))) (xRet (xC .non)) (xNext))
  (xAsg (xIf (xT (xUn fIsN (xVar 3))) (xVar 11) (xTup (xConsA (xOp fIx (xVar 3) (xC (.int 0))) (xConsA (xOp fIx (xVar 11) (xC (.int 1))) (xNilA))))) (xName 3))) (xNext))))))
theorem mem_hi {l h : Option R} (k : ∀ x y, l = some x → h = some y → x ≤ y) {y : R} (hy : h = some y) : inI l h y := And.intro (fun x hx => k x y hx hy) (fun z hz => by rw [hy] at hz; cases hz; exact Std.le_refl _)
theorem ps_step {u : Bt} {x : Qd} (hu : QdOk 2220 x u) (ue : u.e = 0) {l : LPart} (hl : LPOk 2220 l) (s0 s1 : Option A) (f : A) {V U : R → Prop} (Later : R → Prop) (hf : LSpan 8886 f V) (cv : Cvx U) (hV : ∀ t, V t → U t)
    (hord : ∀ t s, V t → l.p.at s → t ≤ s) (hp : ∀ t, l.p.at t → (U t ↔ 0 ≤ bv u t - bv l.p.b t)) (hVL : ∀ t s, V t → Later s → t ≤ s) (hpL : ∀ t s, l.p.at t → Later s → t ≤ s) (s8 s9 s10 s11 : Option A) (w : W) :
    ∃ f' V' z5 z8 z9 z10 z11, psB [s0, s1, some (.bl false), some f, some (encQ x), some (encR l.p.lo), some (encR l.p.hi), some (encQ l.q), s8, s9, s10, s11] w = some (.nx [s0, s1, some (.bl false), some f', some (encQ x), z5, some (encR l.p.hi), some (encQ l.q), z8, z9, z10, z11] w) ∧ LSpan 8886 f' V' ∧
      (∀ t, V' t → U t) ∧ (∀ t, V t → V' t) ∧ (∀ t, l.p.at t → U t → V' t) ∧ ∀ t s, V' t → Later s → t ≤ s := by
  obtain ⟨lo, e1, k1⟩ := plain_end (n := 8886) (o := l.p.lo) (fun r h => (hl.lo r h).mono (by omega)) (by omega)
  obtain ⟨hi, e2, k2⟩ := plain_end (n := 8886) (o := l.p.hi) (fun r h => (hl.hi r h).mono (by omega)) (by omega)
  have y := hl.q
  have hle : ∀ a b, l.p.lo.map io = some a → l.p.hi.map io = some b → a ≤ b := fun a b ha hb => by
    obtain ⟨r, h1, rfl⟩ := Option.map_eq_some_iff.mp ha
    obtain ⟨s, h2, rfl⟩ := Option.map_eq_some_iff.mp hb
    exact io_le.mpr (hl.le r s h1 h2)
  have S := fun {i j p q : Int} (a : IS 2220 i) (b : IS 2220 j) (c : IS 2220 p) (d : IS 2220 q) => ((a.mul b).mono (n := 4440) (by omega)).sub ((c.mul d).mono (by omega))
  have hA := S hu.ie y.im y.ie hu.im
  have hB := S hu.id y.im y.id hu.im
  have hC := S hu.ic y.im y.ic hu.im
  have neg := lead_neg hu y ue hl.e
  obtain ⟨res, r1, r2⟩ := G__law_span_eq (N := 4441) k1 k2 hle hA hB hC neg (by omega) w
  have mm : 0 < ii x.m * ii l.q.m := R.mul_pos (ii_pos.mpr hu.m0) (ii_pos.mpr y.m0)
  have r3 : LSpan 8886 res fun t => l.p.at t ∧ U t := r2.iff fun t => by
    rw [iq_eq hu y]
    constructor
    · rintro ⟨h1, h2⟩
      refine ⟨h1, (hp t h1).mpr (R.not_lt.mp fun z => ?_)⟩
      have := R.mul_pos mm (b := -(bv u t - bv l.p.b t)) (by grind)
      grind
    · rintro ⟨h1, h2⟩
      exact ⟨h1, R.mul_nonneg (by grind) ((hp t h1).mp h2)⟩
  have m1 := mulOk_of hu.ie y.im (by omega)
  have m2 := mulOk_of y.ie hu.im (by omega)
  have m3 := mulOk_of hu.id y.im (by omega)
  have m4 := mulOk_of y.id hu.im (by omega)
  have m5 := mulOk_of hu.ic y.im (by omega)
  have m6 := mulOk_of y.ic hu.im (by omega)
  have pre : ∀ out, (xIfS (xT (xUn fNotN (xVar 11))) (xSeq (xIfS (xAnd (xT (xVar 2)) (xAnd (xT (xOp fEq (xVar 8) (xC (.int 0)))) (xAnd (xT (xOp fEq (xVar 9) (xC (.int 0)))) (xT (xOp fEq (xVar 10) (xC (.int 0))))))) (xRet (xC .non)) (xNext)) (xAsg (xIf (xT (xUn fIsN (xVar 3))) (xVar 11) (xTup (xConsA (xOp fIx (xVar 3) (xC (.int 0))) (xConsA (xOp fIx (xVar 11) (xC (.int 1))) (xNilA))))) (xName 3))) (xNext))
      [s0, s1, some (.bl false), some f, some (encQ x), some lo, some (encR l.p.hi), some (encQ l.q), some (.int (x.e * l.q.m - l.q.e * x.m)), some (.int (x.d * l.q.m - l.q.d * x.m)), some (.int (x.c * l.q.m - l.q.c * x.m)), some res] w = some out → psB [s0, s1, some (.bl false), some f, some (encQ x), some (encR l.p.lo), some (encR l.p.hi), some (encQ l.q), s8, s9, s10, s11] w = some out := fun out ho => by
    have a1 : xOp fSub (xOp fMul (xOp fIx (xVar 4) (xC (.int 2))) (xOp fIx (xVar 7) (xC (.int 3)))) (xOp fMul (xOp fIx (xVar 7) (xC (.int 2))) (xOp fIx (xVar 4) (xC (.int 3)))) [s0, s1, some (.bl false), some f, some (encQ x), some (encR l.p.lo), some (encR l.p.hi), some (encQ l.q), s8, s9, s10, s11] w = some (.int (x.e * l.q.m - l.q.e * x.m), w) := by simp [encQ, m1, m2]
    have a2 : xOp fSub (xOp fMul (xOp fIx (xVar 4) (xC (.int 1))) (xOp fIx (xVar 7) (xC (.int 3)))) (xOp fMul (xOp fIx (xVar 7) (xC (.int 1))) (xOp fIx (xVar 4) (xC (.int 3)))) [s0, s1, some (.bl false), some f, some (encQ x), some (encR l.p.lo), some (encR l.p.hi), some (encQ l.q), some (.int (x.e * l.q.m - l.q.e * x.m)), s9, s10, s11] w = some (.int (x.d * l.q.m - l.q.d * x.m), w) := by simp [encQ, m3, m4]
    have a3 : xOp fSub (xOp fMul (xOp fIx (xVar 4) (xC (.int 0))) (xOp fIx (xVar 7) (xC (.int 3)))) (xOp fMul (xOp fIx (xVar 7) (xC (.int 0))) (xOp fIx (xVar 4) (xC (.int 3)))) [s0, s1, some (.bl false), some f, some (encQ x), some (encR l.p.lo), some (encR l.p.hi), some (encQ l.q), some (.int (x.e * l.q.m - l.q.e * x.m)), some (.int (x.d * l.q.m - l.q.d * x.m)), s10, s11] w = some (.int (x.c * l.q.m - l.q.c * x.m), w) := by simp [encQ, m5, m6]
    have a4 := e1 5 [s0, s1, some (.bl false), some f, some (encQ x), some (encR l.p.lo), some (encR l.p.hi), some (encQ l.q), some (.int (x.e * l.q.m - l.q.e * x.m)), some (.int (x.d * l.q.m - l.q.d * x.m)), some (.int (x.c * l.q.m - l.q.c * x.m)), s11] w rfl
    have a5 := e2 6 [s0, s1, some (.bl false), some f, some (encQ x), some lo, some (encR l.p.hi), some (encQ l.q), some (.int (x.e * l.q.m - l.q.e * x.m)), some (.int (x.d * l.q.m - l.q.d * x.m)), some (.int (x.c * l.q.m - l.q.c * x.m)), s11] w rfl
    have a6 : xCall G__law_span (xConsA (xVar 5) (xConsA (xIf (xT (xUn fIsN (xVar 6))) (xC .non) (xCall G__law_plain (xConsA (xVar 6) (xNilA)))) (xConsA (xVar 8) (xConsA (xVar 9) (xConsA (xVar 10) (xNilA)))))) [s0, s1, some (.bl false), some f, some (encQ x), some lo, some (encR l.p.hi), some (encQ l.q), some (.int (x.e * l.q.m - l.q.e * x.m)), some (.int (x.d * l.q.m - l.q.d * x.m)), some (.int (x.c * l.q.m - l.q.c * x.m)), s11] w = some (res, w) := by
      simp [-xIf, a5, r1]
    unfold psB
    rw [xSeq_eq (xAsg_eq a1)]
    refine (xSeq_eq (xAsg_eq a2)).trans ?_
    refine (xSeq_eq (xAsg_eq a3)).trans ?_
    refine (xSeq_eq (xAsg_eq a4)).trans ?_
    refine (xSeq_eq (xAsg_eq a6)).trans ?_
    exact ho
  have fn : fIsN A.non = some (.bl true) ∧ fNotN A.non = some (.bl false) := ⟨rfl, rfl⟩
  rcases r3 with ⟨rfl, h1⟩ | ⟨ea, eb, el, eh, rfl, h1, h2, h3, h4⟩
  · exact ⟨f, V, _, _, _, _, _, pre _ (by simp; exact ⟨rfl, rfl, rfl, rfl, rfl⟩), hf, hV, fun _ h => h, fun t a b => absurd ⟨a, b⟩ (h1 t), hVL⟩
  · have later : ∀ t s, (∀ y, eh = some y → t ≤ y) → Later s → t ≤ s := fun t s ht hs => by
      cases eh with
      | some z =>
        have := ((h4 z).mpr (mem_hi h3 rfl)).1
        have := hpL z s this hs
        have := ht z rfl
        grind
      | none =>
        obtain ⟨e0, he0⟩ := inI_ne h3
        have big : ∀ v, e0 ≤ v → inI el none v := fun v hv => And.intro (fun a ha => by have := he0.1 a ha; grind) (fun _ z => (nomatch z))
        exfalso
        rcases Std.le_total (a := e0) (b := s) with z | z
        · have := hpL _ s ((h4 (s + 1)).mpr (big _ (by grind))).1 hs
          grind
        · have := hpL _ s ((h4 (e0 + 1)).mpr (big _ (by grind))).1 hs
          grind
    rcases id hf with ⟨rfl, g1⟩ | ⟨fa, fb, fl, fh, rfl, g1, g2, g3, g4⟩
    · exact ⟨.tup [ea, eb], _, _, _, _, _, _, pre _ (by simp; exact ⟨rfl, rfl, rfl, rfl, rfl⟩), .inr ⟨_, _, _, _, rfl, h1, h2, h3, h4⟩, fun t h => h.2, fun t h => absurd h (g1 t), fun t a b => ⟨a, b⟩, fun t s h hs => hpL t s h.1 hs⟩
    · obtain ⟨v0, hv0⟩ := inI_ne g3
      obtain ⟨w0, hw0⟩ := inI_ne h3
      have Vv := (g4 v0).mpr hv0
      have Ew := (h4 w0).mpr hw0
      have vw := hord v0 w0 Vv Ew.1
      refine ⟨.tup [fa, eb], inI fl eh, _, _, _, _, _, pre _ (by simp; exact ⟨rfl, rfl, rfl, rfl, rfl⟩), .inr ⟨_, _, _, _, rfl, g1, h2, fun a b ha hb => ?_, fun t => Iff.rfl⟩, fun t ht => ?_, fun t ht => ?_, fun t a b => ?_, fun t s ht hs => later t s ht.2 hs⟩
      · have := hv0.1 a ha
        have := hw0.2 b hb
        grind
      · by_cases z1 : v0 ≤ t
        · by_cases z2 : t ≤ w0
          · exact cv v0 w0 t (hV _ Vv) Ew.2 z1 z2
          · exact ((h4 t).mpr (And.intro (fun a ha => by have := hw0.1 a ha; grind) ht.2)).2
        · exact hV t ((g4 t).mpr (And.intro ht.1 (fun b hb => by have := hv0.2 b hb; grind)))
      · have q := (g4 t).mp ht
        refine And.intro q.1 (fun b hb => ?_)
        have := hord t w0 ht Ew.1
        have := hw0.2 b hb
        grind
      · have q := (h4 t).mp ⟨a, b⟩
        refine And.intro (fun c hc => ?_) q.2
        have := hord v0 t Vv a
        have := hv0.1 c hc
        grind
theorem ps_walk {u : Bt} {x : Qd} (hu : QdOk 2220 x u) (ue : u.e = 0) (s0 s1 : Option A) {U : R → Prop} (cv : Cvx U) (w : W) : ∀ (ls : List LPart) (f : A) (V : R → Prop) (s5 s6 s7 s8 s9 s10 s11 : Option A), (∀ l ∈ ls, LPOk 2220 l) → (∀ l ∈ ls, ∀ t, l.p.at t → (U t ↔ 0 ≤ bv u t - bv l.p.b t)) → ls.Pairwise (fun a b => ∀ t s, a.p.at t → b.p.at s → t ≤ s) → LSpan 8886 f V → (∀ t, V t → U t) → (∀ l ∈ ls, ∀ t s, V t → l.p.at s → t ≤ s) →
    ∃ f' V' z5 z6 z7 z8 z9 z10 z11, forLoop (xTupG (xConsG (xName 5) (xConsG (xName 6) (xConsG (xName 7) (xNilG))))) psB (ls.map encLP) [s0, s1, some (.bl false), some f, some (encQ x), s5, s6, s7, s8, s9, s10, s11] w = some (.nx [s0, s1, some (.bl false), some f', some (encQ x), z5, z6, z7, z8, z9, z10, z11] w) ∧ LSpan 8886 f' V' ∧ (∀ t, V' t → U t) ∧ (∀ t, V t → V' t) ∧ ∀ l ∈ ls, ∀ t, l.p.at t → U t → V' t := by
  intro ls
  induction ls with
  | nil => exact fun f V s5 s6 s7 s8 s9 s10 s11 _ _ _ hf hv _ => ⟨f, V, _, _, _, _, _, _, _, by simp; exact ⟨rfl, rfl, rfl, rfl, rfl, rfl, rfl⟩, hf, hv, fun _ h => h, fun _ z => nomatch z⟩
  | cons l ls ih =>
    intro f V s5 s6 s7 s8 s9 s10 s11 hok hp hpw hf hv hord
    obtain ⟨pw1, pw2⟩ := List.pairwise_cons.mp hpw
    obtain ⟨f1, V1, z5, z8, z9, z10, z11, a1, a2, a3, a4, a5, a6⟩ := ps_step hu ue (hok l List.mem_cons_self) s0 s1 f (fun s => ∃ q ∈ ls, q.p.at s) hf cv hv (fun t s => hord l List.mem_cons_self t s) (hp l List.mem_cons_self) (fun t s h ⟨q, q1, q2⟩ => hord q (List.mem_cons_of_mem _ q1) t s h q2) (fun t s h ⟨q, q1, q2⟩ => pw1 q q1 t s h q2) s8 s9 s10 s11 w
    obtain ⟨f', V', y5, y6, y7, y8, y9, y10, y11, b1, b2, b3, b4, b5⟩ := ih f1 V1 z5 (some (encR l.p.hi)) (some (encQ l.q)) z8 z9 z10 z11 (fun q h => hok q (List.mem_cons_of_mem _ h)) (fun q h => hp q (List.mem_cons_of_mem _ h)) pw2 a2 a3 (fun q h t s ht hs => a6 t s ht ⟨q, h, hs⟩)
    refine ⟨f', V', y5, y6, y7, y8, y9, y10, y11, ?_, b2, b3, fun t h => b4 t (a4 t h), fun q hq t h1 h2 => ?_⟩
    · rw [List.map_cons]
      conv => lhs; unfold forLoop
      have st : (xTupG (xConsG (xName 5) (xConsG (xName 6) (xConsG (xName 7) (xNilG))))) (encLP l) [s0, s1, some (.bl false), some f, some (encQ x), s5, s6, s7, s8, s9, s10, s11] = some [s0, s1, some (.bl false), some f, some (encQ x), some (encR l.p.lo), some (encR l.p.hi), some (encQ l.q), s8, s9, s10, s11] := rfl
      rw [st]
      dsimp only [Option.bind_some]
      rw [a1]
      exact b1
    · rcases List.mem_cons.mp hq with rfl | hq
      · exact b4 t (a5 t h1 h2)
      · exact b5 q hq t h1 h2
theorem G__law_pair_eq {u : Bt} {x : Qd} (hu : QdOk 2220 x u) (ue : u.e = 0) {Bf : R → R → Prop} (cv : Cvx fun t => Bf t (bv u t)) {ls : List LPart} (hp : Pieces (ls.map (·.p)) Bf) (hok : ∀ l ∈ ls, LPOk 2220 l) (hpw : ls.Pairwise (fun a b => ∀ t s, a.p.at t → b.p.at s → t ≤ s)) (a b : A) (w : W) :
    ∃ f, G__law_pair_span [.lst (ls.map encLP), .lst [.tup [a, b, encQ x]], .bl false] w = some (f, w) ∧ LSpan 8886 f fun t => Bf t (bv u t) := by
  obtain ⟨f', V', z5, z6, z7, z8, z9, z10, z11, e1, e2, e3, e4, e5⟩ := ps_walk hu ue (some (.lst (ls.map encLP))) (some (.lst [.tup [a, b, encQ x]])) cv w ls .non (fun _ => False) none none none none none none none hok (fun l hl t ht => by
    rw [hp.eq l.p (List.mem_map_of_mem hl) t ht]
    constructor <;> intro z <;> grind) hpw (.inl ⟨rfl, fun _ h => h⟩) (fun _ h => h.elim) (fun _ _ _ _ h => h.elim)
  refine ⟨f', ?_, e2.iff fun t => ⟨e3 t, fun h => ?_⟩⟩
  · have e : xFor (yLst (xVar 0)) (xTupG (xConsG (xName 5) (xConsG (xName 6) (xConsG (xName 7) (xNilG))))) psB [some (.lst (ls.map encLP)), some (.lst [.tup [a, b, encQ x]]), some (.bl false), some .non, some (encQ x), none, none, none, none, none, none, none] w = some (.nx [some (.lst (ls.map encLP)), some (.lst [.tup [a, b, encQ x]]), some (.bl false), some f', some (encQ x), z5, z6, z7, z8, z9, z10, z11] w) := e1
    unfold G__law_pair_span
    refine (xDef_eq (n := 3) (as := [_, _, _]) rfl).trans ?_
    show xDef.xRun (xSeq (xPar2 3 4 (xConsA (xC .non) (xConsA (xOp fIx (xOp fIx (xVar 1) (xC (.int 0))) (xC (.int 2))) (xNilA)))) (xSeq (xFor (yLst (xVar 0)) (xTupG (xConsG (xName 5) (xConsG (xName 6) (xConsG (xName 7) (xNilG))))) psB) (xSeq (xIfS (xOr (xNot (xT (xVar 2))) (xOr (xT (xUn fIsN (xVar 3))) (xOr (xT (xUn fIsN (xOp fIx (xVar 3) (xC (.int 0))))) (xT (xUn fIsN (xOp fIx (xVar 3) (xC (.int 1)))))))) (xRet (xVar 3)) (xNext)) (xRet (xIf (xT (xOp fLt (xCall G__law_surd_order (xConsA (xOp fIx (xVar 3) (xC (.int 0))) (xConsA (xOp fIx (xVar 3) (xC (.int 1))) (xNilA)))) (xC (.int 0)))) (xVar 3) (xC .non))))) _ w) = _
    simp [-xFor, e]
  · obtain ⟨p, h1, h2⟩ := hp.cov t
    obtain ⟨l, h3, rfl⟩ := List.mem_map.mp h1
    exact e5 l h3 t h2 h
end
end Sp
/-! LA 3: the law's parts of an ask. -/
namespace Sp
noncomputable section
def quadOf (c d e : Rat) : Qd := ⟨c.num * d.den * e.den, d.num * c.den * e.den, e.num * c.den * d.den, c.den * d.den * e.den⟩
theorem quadOf_ok {c d e : Rat} (hc : Sz 740 c) (hd : Sz 740 d) (he : Sz 740 e) : QdOk 2220 (quadOf c d e) ⟨c, d, e⟩ := by
  have c1 := den_mul c
  have d1 := den_mul d
  have e1 := den_mul e
  refine ⟨?_, ?_, ?_, ?_, (hc.num.mul hd.dn).mul he.dn, (hd.num.mul hc.dn).mul he.dn, (he.num.mul hc.dn).mul hd.dn, (hc.dn.mul hd.dn).mul he.dn⟩
  · exact Int.mul_pos (Int.mul_pos (by have := c.den_pos; omega) (by have := d.den_pos; omega)) (by have := e.den_pos; omega)
  all_goals
    unfold quadOf
    dsimp only
    simp only [Rat.intCast_mul, Rat.intCast_natCast]
    first | (rw [← c1]; grind) | (rw [← d1]; grind) | (rw [← e1]; grind)
theorem G__law_bound_eq {c d e : Rat} (hc : Sz 740 c) (hd : Sz 740 d) (he : Sz 740 e) (w : W) : G__law_bound [enc c, enc d, enc e] w = some (encQ (quadOf c d e), w) := by
  have m1 := mulOk_of hc.dn hd.dn (by omega)
  have m2 := mulOk_of (hc.dn.mul hd.dn) he.dn (by omega)
  have m3 := mulOk_of hc.num hd.dn (by omega)
  have m4 := mulOk_of (hc.num.mul hd.dn) he.dn (by omega)
  have m5 := mulOk_of hd.num hc.dn (by omega)
  have m6 := mulOk_of (hd.num.mul hc.dn) he.dn (by omega)
  have m7 := mulOk_of he.num hc.dn (by omega)
  have m8 := mulOk_of (he.num.mul hc.dn) hd.dn (by omega)
  simp [G__law_bound, B__law_bound, enc, m1, m2, m3, m4, m5, m6, m7, m8, encQ, quadOf]
def placeQ (a : Pl) : Qd := ⟨0 - a.q * a.r, a.p * a.r, 0, a.p * a.p⟩
theorem pl_x {a : Pl} (h : PlOk a) : (a.p : Rat) = a.x * (a.r : Rat) ∧ (a.q : Rat) = a.y * (a.r : Rat) ∧ (a.r : Rat) ≠ 0 := by
  have r0 : (a.r : Rat) ≠ 0 := fun z => by
    have := Rat.intCast_eq_zero_iff.mp z
    have := h.r0
    omega
  have h1 := h.hx
  have h2 := h.hy
  rw [Rat.divInt_eq_div] at h1 h2
  refine ⟨?_, ?_, r0⟩ <;> grind
theorem placeQ_ok {a : Pl} (h : PlOk a) : QdOk 2220 (placeQ a) (lineB a.x a.y) := by
  obtain ⟨p1, p2, p3⟩ := pl_x h
  have x0 := h.xp
  have x1 : a.x ≠ 0 := by grind
  have pp : 0 < a.p := by
    have h1 : (0 : Rat) < (a.p : Rat) := by
      rw [p1]
      exact Rat.mul_pos x0 (Rat.intCast_pos.mpr h.r0)
    exact Rat.intCast_pos.mp h1
  refine ⟨Int.mul_pos pp pp, ?_, ?_, ?_, ?_, (h.ip.mul h.ir).mono (by omega), show (0 : Int).natAbs < 2 ^ _ by simp; exact Nat.two_pow_pos _, (h.ip.mul h.ip).mono (by omega)⟩
  · unfold placeQ lineB
    dsimp only
    rw [Int.zero_sub, Rat.intCast_neg, Rat.intCast_mul, Rat.intCast_mul, p1, p2]
    grind
  · unfold placeQ lineB
    dsimp only
    rw [Rat.intCast_mul, Rat.intCast_mul, p1]
    grind
  · unfold placeQ lineB
    dsimp only
    rw [Rat.zero_mul]
    rfl
  · show IS 2220 (0 - a.q * a.r)
    rw [Int.zero_sub]
    exact (h.iq.mul h.ir).neg.mono (by omega)
theorem G__law_place_bound_eq {a : Pl} (h : PlOk a) (w : W) : G__law_place_bound [encPl a] w = some (encQ (placeQ a), w) := by
  have m1 := mulOk_of h.iq h.ir (by omega)
  have m2 := mulOk_of h.ip h.ir (by omega)
  have m3 := mulOk_of h.ip h.ip (by omega)
  simp [G__law_place_bound, B__law_place_bound, encPl, m1, m2, m3, encQ, placeQ]
theorem G__law_apart_eq {a : Pl} (h : PlOk a) (w : W) : G__law_apart [encPl a] w = some (.tup [enc a.x, enc a.y], w) := by
  have h0 := h.r0
  have e1 := G__law_ratio_eq (w := w) h.ip h.ir (by omega) (by omega)
  have e2 := G__law_ratio_eq (w := w) h.iq h.ir (by omega) (by omega)
  rw [h.hx] at e1
  rw [h.hy] at e2
  simp [G__law_apart, B__law_apart, encPl, e1, e2]
theorem G__law_line_eq {a b : Pl} (ha : PlOk a) (hb : PlOk b) (hab : a.x < b.x) (w : W) : G__law_line [encPl a, encPl b] w = some (.tup [enc (roofK a.x a.y b.x b.y), enc (roofM a.x a.y b.x b.y)], w) := by
  have n0 : b.x - a.x ≠ 0 := by grind
  have s1 := hb.sx.sub ha.sx
  have s2 := hb.sy.sub ha.sy
  have e1 := G__law_less_eq (w := w) hb.sx ha.sx (by omega)
  have e2 := G__law_less_eq (w := w) hb.sy ha.sy (by omega)
  have e3 := G__law_over_eq (w := w) s2 s1 n0 (by omega)
  have s3 : Sz 162 (roofM a.x a.y b.x b.y) := (s2.div s1 n0).mono (by omega)
  have e4 := G__law_times_eq (w := w) s3 ha.sx (by omega)
  have e5 := G__law_less_eq (w := w) ha.sy (s3.mul ha.sx) (by omega)
  have e3' : G__law_over [enc (b.y - a.y), enc (b.x - a.x)] w = some (enc (roofM a.x a.y b.x b.y), w) := e3
  simp [G__law_line, B__law_line, G__law_apart_eq ha, G__law_apart_eq hb, e1, e2, e3', e4, e5]
  rfl
theorem c21 : (A.tup [.int 2, .int 1]) = enc 2 := rfl
theorem c41 : (A.tup [.int 4, .int 1]) = enc 4 := rfl
theorem c11 : (A.tup [.int 1, .int 1]) = enc 1 := rfl
theorem c01 : (A.tup [.int 0, .int 1]) = enc 0 := rfl
theorem cm2 : (A.tup [.int (-2), .int 1]) = enc (-2) := rfl
def roofL (a b : Pl) : List LPart :=
  let m := roofM a.x a.y b.x b.y
  let k := roofK a.x a.y b.x b.y
  if k ≤ 0 then
    [⟨⟨none, some (m + (k / a.x + k / b.x)), lineB b.x b.y⟩, placeQ b⟩, ⟨⟨some (m + (k / a.x + k / b.x)), none, lineB a.x a.y⟩, placeQ a⟩]
  else
    [⟨⟨none, some (m + 2 * k / b.x), lineB b.x b.y⟩, placeQ b⟩, ⟨⟨some (m + 2 * k / b.x), some (m + 2 * k / a.x), ⟨1 / (4 * k) * (m * m), -(2 * m) * (1 / (4 * k)), 1 / (4 * k)⟩⟩, quadOf (m * m / (4 * k)) (-2 * m / (4 * k)) (1 / (4 * k))⟩, ⟨⟨some (m + 2 * k / a.x), none, lineB a.x a.y⟩, placeQ a⟩]
theorem roofL_map (a b : Pl) : (roofL a b).map (·.p) = roofParts a.x a.y b.x b.y := by
  unfold roofL roofParts
  dsimp only
  split <;> rfl
theorem roofL_q {a b : Pl} (ha : PlOk a) (hb : PlOk b) (hab : a.x < b.x) : ∀ l ∈ roofL a b, QdOk 2220 l.q l.p.b := by
  obtain ⟨sm, sk⟩ := sz_roof ha.sx ha.sy hb.sx hb.sy hab
  have qa := placeQ_ok ha
  have qb := placeQ_ok hb
  unfold roofL
  generalize roofM a.x a.y b.x b.y = m at *
  generalize roofK a.x a.y b.x b.y = k at *
  by_cases hk : k ≤ 0
  · simp only [if_pos hk]
    intro l hl
    rcases List.mem_cons.mp hl with rfl | hl
    · exact qb
    · rw [List.mem_singleton.mp hl]
      exact qa
  · simp only [if_neg hk]
    have n4 : 4 * k ≠ 0 := by grind
    have s4k : Sz 246 (4 * k) := (sz4.mul sk).mono (by omega)
    have sm2 : Sz 2 (-2 : Rat) := sz2.neg
    have ok := quadOf_ok (((sm.mul sm).div s4k n4).mono (n := 740) (by omega)) (((sm2.mul sm).div s4k n4).mono (by omega)) ((sz_one.div s4k n4).mono (by omega))
    have e1 : m * m / (4 * k) = 1 / (4 * k) * (m * m) := by grind
    have e2 : -2 * m / (4 * k) = -(2 * m) * (1 / (4 * k)) := by grind
    intro l hl
    rcases List.mem_cons.mp hl with rfl | hl
    · exact qb
    · rcases List.mem_cons.mp hl with rfl | hl
      · dsimp only
        have ok2 := ok
        conv at ok2 => rhs; rw [e1, e2]
        exact ok2
      · rw [List.mem_singleton.mp hl]
        exact qa
theorem G__law_roof_eq {a b : Pl} (ha : PlOk a) (hb : PlOk b) (hab : a.x < b.x) (w : W) : G__law_roof_parts [encPl a, encPl b] w = some (.lst ((roofL a b).map encLP), w) := by
  have e1 := G__law_line_eq ha hb hab w
  obtain ⟨sm, sk⟩ := sz_roof ha.sx ha.sy hb.sx hb.sy hab
  have n1 : a.x ≠ 0 := by have := ha.xp; grind
  have n2 : b.x ≠ 0 := by have := hb.xp; grind
  unfold roofL
  generalize roofM a.x a.y b.x b.y = m at *
  generalize roofK a.x a.y b.x b.y = k at *
  have g : ∀ r : Rat, fIx (enc r) (.int 0) = some (.int r.num) := fun r => rfl
  have g2 : ∀ x y : A, fIx (.tup [x, y]) (.int 0) = some x := fun x y => rfl
  have kn : k.num ≤ 0 ↔ k ≤ 0 := by
    rw [← Int.not_lt, num_pos, Rat.not_lt]
  by_cases hk : k ≤ 0
  · simp only [if_pos hk]
    have f1 := G__law_over_eq (w := w) sk ha.sx n1 (by omega)
    have f2 := G__law_over_eq (w := w) sk hb.sx n2 (by omega)
    have f3 := G__law_plus_eq (w := w) (sk.div ha.sx n1) (sk.div hb.sx n2) (by omega)
    have f4 := G__law_plus_eq (w := w) sm ((sk.div ha.sx n1).add (sk.div hb.sx n2)) (by omega)
    have kn' := kn.mpr hk
    simp [G__law_roof_parts, B__law_roof_parts, e1, G__law_apart_eq ha, G__law_apart_eq hb, G__law_place_bound_eq ha, G__law_place_bound_eq hb, -fIx, g, g2, kn', f1, f2, f3, f4, encLP, encR]
  · simp only [if_neg hk]
    have kn' : ¬ k.num ≤ 0 := fun z => hk (kn.mp z)
    have s2k : Sz 245 (2 * k) := (sz2.mul sk).mono (by omega)
    have s4k : Sz 246 (4 * k) := (sz4.mul sk).mono (by omega)
    have n4 : 4 * k ≠ 0 := by grind
    have sm2 : Sz 2 (-2 : Rat) := sz2.neg
    have f1 := G__law_times_eq (w := w) sz2 sk (by omega)
    have f2 := G__law_over_eq (w := w) s2k ha.sx n1 (by omega)
    have f3 := G__law_over_eq (w := w) s2k hb.sx n2 (by omega)
    have f4 := G__law_plus_eq (w := w) sm (s2k.div ha.sx n1) (by omega)
    have f5 := G__law_plus_eq (w := w) sm (s2k.div hb.sx n2) (by omega)
    have f6 := G__law_times_eq (w := w) sz4 sk (by omega)
    have f7 := G__law_over_eq (w := w) sz_one s4k n4 (by omega)
    have f8 := G__law_times_eq (w := w) sm sm (by omega)
    have f9 := G__law_over_eq (w := w) (sm.mul sm) s4k n4 (by omega)
    have f10 := G__law_times_eq (w := w) sm2 sm (by omega)
    have f11 := G__law_over_eq (w := w) (sm2.mul sm) s4k n4 (by omega)
    have f12 := G__law_bound_eq (((sm.mul sm).div s4k n4).mono (by omega)) (((sm2.mul sm).div s4k n4).mono (by omega)) ((sz_one.div s4k n4).mono (by omega)) w
    simp [G__law_roof_parts, B__law_roof_parts, e1, G__law_apart_eq ha, G__law_apart_eq hb, G__law_place_bound_eq ha, G__law_place_bound_eq hb, -fIx, g, g2, kn', c21, c41, c11, cm2, f1, f2, f3, f4, f5, f6, f7, f8, f9, f10, f11, f12, encLP, encR]
theorem IS.zero (n : Nat) : IS n 0 := by
  show (0 : Int).natAbs < 2 ^ n
  rw [Int.natAbs_zero]
  exact Nat.two_pow_pos n
/-- the law's pieces -/
def Ask.lparts : Ask → List LPart
  | .over a => [⟨⟨none, none, lineB a.x a.y⟩, placeQ a⟩]
  | .under a => [⟨⟨none, none, lineB a.x a.y⟩, placeQ a⟩]
  | .roof a b => roofL a b
  | .low h => [⟨⟨none, some 0, ⟨0, 0, 0⟩⟩, ⟨0, 0, 0, 1⟩⟩, ⟨⟨some 0, none, ⟨0, 0, 1 / (4 * h)⟩⟩, quadOf 0 0 (1 / (4 * h))⟩]
  | .dives x s => [⟨⟨none, none, ⟨-(1 / (2 * x) * s), 1 / (2 * x), 0⟩⟩, quadOf (-s / (2 * x)) (1 / (2 * x)) 0⟩]
  | .climbs x s => [⟨⟨none, none, ⟨-(1 / (2 * x) * s), 1 / (2 * x), 0⟩⟩, quadOf (-s / (2 * x)) (1 / (2 * x)) 0⟩]
  | .quick k => [⟨⟨none, none, ⟨k, 0, 0⟩⟩, quadOf k 0 0⟩]
  | .slow k => [⟨⟨none, none, ⟨k, 0, 0⟩⟩, quadOf k 0 0⟩]
theorem lparts_map (a : Ask) : a.lparts.map (·.p) = a.parts := by
  cases a <;> first | rfl | exact roofL_map _ _
theorem lparts_q {a : Ask} (h : AskOk a) (hs : a.steep = false) : ∀ l ∈ a.lparts, QdOk 2220 l.q l.p.b := by
  have z0 : Sz 740 (0 : Rat) := sz0.mono (by omega)
  have st : ∀ {x s : Rat}, Sz 40 x → Sz 40 s → x ≠ 0 → QdOk 2220 (quadOf (-s / (2 * x)) (1 / (2 * x)) 0) ⟨-(1 / (2 * x) * s), 1 / (2 * x), 0⟩ := fun {x s} h1 h2 n0 => by
    have e : -(1 / (2 * x) * s) = -s / (2 * x) := by grind
    rw [e]
    exact quadOf_ok ((h2.neg.div (sz2.mul h1) (by grind)).mono (by omega)) ((half_sz h1 n0).mono (by omega)) z0
  cases a with
  | over a => intro l hl; rw [List.mem_singleton.mp hl]; exact placeQ_ok h
  | under a => intro l hl; rw [List.mem_singleton.mp hl]; exact placeQ_ok h
  | roof a b => exact roofL_q h.1 h.2.1 h.2.2
  | low k =>
    obtain ⟨h1, h2⟩ := h
    have sW : Sz 44 (1 / (4 * k)) := (sz_one.div (sz4.mul h1) (by grind)).mono (by omega)
    intro l hl
    rcases List.mem_cons.mp hl with rfl | hl
    · exact ⟨by decide, by rw [Rat.zero_mul]; rfl, by rw [Rat.zero_mul]; rfl, by rw [Rat.zero_mul]; rfl, IS.zero _, IS.zero _, IS.zero _, show (1 : Int).natAbs < 2 ^ _ from Nat.one_lt_two_pow (by omega)⟩
    · rw [List.mem_singleton.mp hl]
      exact quadOf_ok z0 z0 (sW.mono (by omega))
  | dives x s => intro l hl; rw [List.mem_singleton.mp hl]; exact st h.1 h.2.1 (of_decide_eq_false hs)
  | climbs x s => intro l hl; rw [List.mem_singleton.mp hl]; exact st h.1 h.2.1 (of_decide_eq_false hs)
  | quick k => intro l hl; rw [List.mem_singleton.mp hl]; exact quadOf_ok (h.1.mono (by omega)) z0 z0
  | slow k => intro l hl; rw [List.mem_singleton.mp hl]; exact quadOf_ok (h.1.mono (by omega)) z0 z0
theorem lparts_ok {a : Ask} (h : AskOk a) (hs : a.steep = false) : ∀ l ∈ a.lparts, LPOk 2220 l := fun l hl => by
  have hp : l.p ∈ a.parts := by
    rw [← lparts_map]
    exact List.mem_map_of_mem hl
  have ok := parts_ok h hs l.p hp
  exact ⟨fun r z => (ok.lo r z).mono (by omega), fun r z => (ok.hi r z).mono (by omega), ok.e, ok.le, lparts_q h hs l hl⟩
def Before (p q : Part) : Prop := ∀ t s, p.at t → q.at s → t ≤ s
theorem before_at {j : Rat} {p q : Part} (h1 : p.hi = some j) (h2 : q.lo = some j) : Before p q := fun t s ht hs => by
  have a := ht.2 (io j) (by rw [h1]; rfl)
  have b := hs.1 (io j) (by rw [h2]; rfl)
  grind
theorem roof_order {x1 y1 x2 y2 : Rat} (h0 : 0 < x1) (hab : x1 < x2) : (roofParts x1 y1 x2 y2).Pairwise Before := by
  unfold roofParts
  generalize roofM x1 y1 x2 y2 = m
  generalize roofK x1 y1 x2 y2 = k
  by_cases hk : k ≤ 0
  · simp only [if_pos hk]
    refine List.pairwise_cons.mpr ⟨fun q hq => ?_, List.pairwise_singleton _ _⟩
    rw [List.mem_singleton.mp hq]
    exact before_at rfl rfl
  · simp only [if_neg hk]
    have k0 : 0 < k := by grind
    have n1 : x1 ≠ 0 := by grind
    have n2 : x2 ≠ 0 := by grind
    have inv : 2 * k / x2 ≤ 2 * k / x1 := by
      have p1 := Rat.inv_pos.mpr h0
      have p2 := Rat.inv_pos.mpr (show 0 < x2 by grind)
      have q1 := Rat.mul_inv_cancel x1 n1
      have q2 := Rat.mul_inv_cancel x2 n2
      have z := Rat.mul_lt_mul_of_pos_right hab (Rat.mul_pos p1 p2)
      have e1 : x1 * (x1⁻¹ * x2⁻¹) = x2⁻¹ := by grind
      have e2 : x2 * (x1⁻¹ * x2⁻¹) = x1⁻¹ := by grind
      rw [e1, e2] at z
      have z2 := Rat.mul_lt_mul_of_pos_left z k0
      rw [Rat.div_def, Rat.div_def]
      grind
    refine List.pairwise_cons.mpr ⟨fun q hq => ?_, List.pairwise_cons.mpr ⟨fun q hq => ?_, List.pairwise_singleton _ _⟩⟩
    · rcases List.mem_cons.mp hq with rfl | hq
      · exact before_at rfl rfl
      · rw [List.mem_singleton.mp hq]
        intro t s ht hs
        have a := ht.2 _ rfl
        have b := hs.1 _ rfl
        have c : io (m + 2 * k / x2) ≤ io (m + 2 * k / x1) := io_le.mpr (by grind)
        grind
    · rw [List.mem_singleton.mp hq]
      exact before_at rfl rfl
theorem parts_order {a : Ask} (h : AskOk a) : a.parts.Pairwise Before := by
  cases a with
  | roof a b => exact roof_order h.1.xp h.2.2
  | low k =>
    refine List.pairwise_cons.mpr ⟨fun q hq => ?_, List.pairwise_singleton _ _⟩
    rw [List.mem_singleton.mp hq]
    exact before_at rfl rfl
  | _ => exact List.pairwise_singleton _ _
theorem lparts_order {a : Ask} (h : AskOk a) : a.lparts.Pairwise fun p q => ∀ t s, p.p.at t → q.p.at s → t ≤ s := by
  have e := parts_order h
  rw [← lparts_map, List.pairwise_map] at e
  exact e
theorem G__law_parts_eq {a : Ask} (h : AskOk a) (hs : a.steep = false) (w : W) : G__law_parts [encAsk a] w = some (.tup [.bl a.least, .lst (a.lparts.map encLP)], w) := by
  have z0 : Sz 740 (0 : Rat) := sz0.mono (by omega)
  have ng : ∀ s : Rat, (A.tup [.int (-s.num), .int s.den]) = enc (-s) := enc_neg
  cases a with
  | over a => simp [G__law_parts, B__law_parts, encAsk, words, G__law_place_bound_eq h, Ask.lparts, encLP, encR, Ask.least]
  | under a => simp [G__law_parts, B__law_parts, encAsk, words, G__law_place_bound_eq h, Ask.lparts, encLP, encR, Ask.least]
  | roof a b => simp [G__law_parts, B__law_parts, encAsk, words, G__law_roof_eq h.1 h.2.1 h.2.2, Ask.lparts, Ask.least]
  | low k =>
    obtain ⟨h1, h2⟩ := h
    have sW : Sz 44 (1 / (4 * k)) := (sz_one.div (sz4.mul h1) (by grind)).mono (by omega)
    have f6 := G__law_times_eq (w := w) sz4 h1 (by omega)
    have f7 := G__law_over_eq (w := w) sz_one (sz4.mul h1) (by grind) (by omega)
    have f8 := G__law_bound_eq z0 z0 (sW.mono (by omega)) w
    simp [G__law_parts, B__law_parts, encAsk, words, c41, c11, c01, f6, f7, f8, Ask.lparts, encLP, encR, encQ, Ask.least]
  | dives x s =>
    obtain ⟨h1, h2, h3⟩ := h
    have n0 : x ≠ 0 := of_decide_eq_false hs
    have f6 := G__law_times_eq (w := w) sz2 h1 (by omega)
    have f7 := G__law_over_eq (w := w) h2.neg (sz2.mul h1) (by grind) (by omega)
    have f8 := G__law_over_eq (w := w) sz_one (sz2.mul h1) (by grind) (by omega)
    have f9 := G__law_bound_eq ((h2.neg.div (sz2.mul h1) (by grind)).mono (by omega)) ((half_sz h1 n0).mono (by omega)) z0 w
    have g : fIx (enc s) (.int 0) = some (.int s.num) ∧ fIx (enc s) (.int 1) = some (.int s.den) := ⟨rfl, rfl⟩
    have g3 : fIx (.tup [.str "dives", enc x, enc s]) (.int 0) = some (.str "dives") ∧ fIx (.tup [.str "dives", enc x, enc s]) (.int 1) = some (enc x) ∧ fIx (.tup [.str "dives", enc x, enc s]) (.int 2) = some (enc s) := ⟨rfl, rfl, rfl⟩
    simp [G__law_parts, B__law_parts, encAsk, words, -fIx, g, g3, c21, c11, c01, ng, f6, f7, f8, f9, Ask.lparts, encLP, encR, Ask.least]
  | climbs x s =>
    obtain ⟨h1, h2, h3⟩ := h
    have n0 : x ≠ 0 := of_decide_eq_false hs
    have f6 := G__law_times_eq (w := w) sz2 h1 (by omega)
    have f7 := G__law_over_eq (w := w) h2.neg (sz2.mul h1) (by grind) (by omega)
    have f8 := G__law_over_eq (w := w) sz_one (sz2.mul h1) (by grind) (by omega)
    have f9 := G__law_bound_eq ((h2.neg.div (sz2.mul h1) (by grind)).mono (by omega)) ((half_sz h1 n0).mono (by omega)) z0 w
    have g : fIx (enc s) (.int 0) = some (.int s.num) ∧ fIx (enc s) (.int 1) = some (.int s.den) := ⟨rfl, rfl⟩
    have g3 : fIx (.tup [.str "climbs", enc x, enc s]) (.int 0) = some (.str "climbs") ∧ fIx (.tup [.str "climbs", enc x, enc s]) (.int 1) = some (enc x) ∧ fIx (.tup [.str "climbs", enc x, enc s]) (.int 2) = some (enc s) := ⟨rfl, rfl, rfl⟩
    simp [G__law_parts, B__law_parts, encAsk, words, -fIx, g, g3, c21, c11, c01, ng, f6, f7, f8, f9, Ask.lparts, encLP, encR, Ask.least]
  | quick k =>
    have f8 := G__law_bound_eq (h.1.mono (by omega)) z0 z0 w
    simp [G__law_parts, B__law_parts, encAsk, words, c01, f8, Ask.lparts, encLP, encR, Ask.least]
  | slow k =>
    have f8 := G__law_bound_eq (h.1.mono (by omega)) z0 z0 w
    simp [G__law_parts, B__law_parts, encAsk, words, c01, f8, Ask.lparts, encLP, encR, Ask.least]
def headLP (k : Rat) : LPart := ⟨⟨none, none, ⟨1 / (4 * k), 0, 1 / (4 * k)⟩⟩, quadOf (1 / (4 * k)) 0 (1 / (4 * k))⟩
theorem G__law_head_eq {k : Rat} (h1 : Sz 100 k) (h0 : 0 < k) (w : W) : G__law_head_part [enc k] w = some (.lst [encLP (headLP k)], w) ∧ LPOk 2220 (headLP k) := by
  have z0 : Sz 740 (0 : Rat) := sz0.mono (by omega)
  have f6 := G__law_times_eq (w := w) sz4 h1 (by omega)
  have f7 := G__law_over_eq (w := w) sz_one (sz4.mul h1) (by grind) (by omega)
  have sW : Sz 104 (1 / (4 * k)) := (sz_one.div (sz4.mul h1) (by grind)).mono (by omega)
  have f8 := G__law_bound_eq (sW.mono (by omega)) z0 (sW.mono (by omega)) w
  refine ⟨by simp [G__law_head_part, B__law_head_part, c41, c11, c01, f6, f7, f8, encLP, headLP, encR], fun _ z => (nomatch z), fun _ z => (nomatch z), inv_nonneg (by grind), fun _ _ z => (nomatch z), quadOf_ok (sW.mono (by omega)) z0 (sW.mono (by omega))⟩
end
end Sp
/-! LA 4: the law's spans and slopes. -/
namespace Sp
noncomputable section
def encE (a : Ask) : A := .tup [encAsk a, .bl false]
structure LL where
  ps : List LPart
  F : R → R → Prop
structure LLOk (l : LL) : Prop where
  pc : Pieces (l.ps.map (·.p)) (Bd l.F)
  ok : ∀ p ∈ l.ps, LPOk 2220 p
  pw : l.ps.Pairwise fun p q => ∀ t s, p.p.at t → q.p.at s → t ≤ s
def encLL (l : LL) : A := .tup [.lst (l.ps.map encLP), .bl false]
structure UU where
  q : Qd
  b : Bt
structure UUOk (u : UU) : Prop where
  q : QdOk 2220 u.q u.b
  e : u.b.e = 0
def encUU (u : UU) : A := .tup [.lst [.tup [.non, .non, encQ u.q]], .bl false]
/-- an entry of the found -/
def FEnt (a : A) (S : R → Prop) : Prop := (a = .non ∧ ∀ t, ¬ S t) ∨ ∃ lo hi l h, a = .tup [lo, hi, .bl false] ∧ LEnd 8886 lo l ∧ LEnd 8886 hi h ∧ ∀ t, S t ↔ inI l h t
def FL (es : List A) (S : R → Prop) : Prop := ∃ Es : List (A × (R → Prop)), Es.map Prod.fst = es ∧ (∀ p ∈ Es, FEnt p.1 p.2) ∧ ∀ t, S t ↔ ∀ p ∈ Es, p.2 t
theorem FL.nil : FL [] fun _ => True := ⟨[], rfl, fun _ z => (nomatch z), fun t => ⟨fun _ _ z => (nomatch z), fun _ => trivial⟩⟩
theorem FL.append {es fs : List A} {S T : R → Prop} (h : FL es S) (g : FL fs T) : FL (es ++ fs) fun t => S t ∧ T t := by
  obtain ⟨Es, h1, h2, h3⟩ := h
  obtain ⟨Fs, g1, g2, g3⟩ := g
  refine ⟨Es ++ Fs, by rw [List.map_append, h1, g1], fun p hp => ?_, fun t => ?_⟩
  · rcases List.mem_append.mp hp with hp | hp
    · exact h2 p hp
    · exact g2 p hp
  · show (S t ∧ T t) ↔ _
    rw [h3, g3]
    constructor
    · rintro ⟨a, b⟩ p hp
      rcases List.mem_append.mp hp with hp | hp
      · exact a p hp
      · exact b p hp
    · exact fun a => ⟨fun p hp => a p (List.mem_append_left _ hp), fun p hp => a p (List.mem_append_right _ hp)⟩
theorem FL.one {a : A} {S : R → Prop} (h : FEnt a S) : FL [a] S := ⟨[(a, S)], rfl, fun p hp => by rw [List.mem_singleton.mp hp]; exact h, fun t => ⟨fun h p hp => by rw [List.mem_singleton.mp hp]; exact h, fun h => h _ (List.mem_singleton.mpr rfl)⟩⟩
theorem FL.iff {es : List A} {S T : R → Prop} (h : FL es S) (e : ∀ t, S t ↔ T t) : FL es T := by
  have : S = T := funext fun t => propext (e t)
  rwa [← this]
/-! three more cells -/
theorem c3_0 (w : W) (a b c : List A) : (w ++ [a, b, c])[w.length]? = some a := by simp
theorem c3_1 (w : W) (a b c : List A) : (w ++ [a, b, c])[w.length + 1]? = some b := by simp
theorem c3_2 (w : W) (a b c : List A) : (w ++ [a, b, c])[w.length + 2]? = some c := by simp
theorem s3_0 (w : W) (a b c x : List A) : (w ++ [a, b, c]).set w.length x = w ++ [x, b, c] := by
  rw [List.set_append_right _ _ (Nat.le_refl _)]
  simp
theorem s3_1 (w : W) (a b c x : List A) : (w ++ [a, b, c]).set (w.length + 1) x = w ++ [a, x, c] := by
  rw [List.set_append_right _ _ (by omega)]
  simp
theorem s3_2 (w : W) (a b c x : List A) : (w ++ [a, b, c]).set (w.length + 2) x = w ++ [a, b, x] := by
  rw [List.set_append_right _ _ (by omega)]
  simp
def sp2B : GS := xSeq (xAsg (xCall G__law_pair_span (xConsA (xVar 7) (xConsA (xVar 9) (xConsA (xOrV (xVar 6) (xVar 10)) (xNilA))))) (xName 11))
  (xApp 4 (xIf (xT (xUn fIsN (xVar 11))) (xC .non) (xTup (xConsA (xOp fIx (xVar 11) (xC (.int 0))) (xConsA (xOp fIx (xVar 11) (xC (.int 1))) (xConsA (xOrV (xVar 6) (xVar 10)) (xNilA)))))))
theorem sp2_in {l : LL} (hl : LLOk l) (w : W) (ls us : List A) (s0 s1 s2 s3 s5 s8 s12 : Option A) : ∀ (vs : List UU) (fs : List A) (s9 s10 s11 : Option A), (∀ u ∈ vs, UUOk u) → fs.length + vs.length ≤ 10000 →
    ∃ es z9 z10 z11, forLoopC (w.length + 1) us (xTupG (xConsG (xName 9) (xConsG (xName 10) (xNilG)))) sp2B (vs.map encUU) [s0, s1, s2, s3, some (.cell (w.length + 2)), s5, some (.bl false), some (.lst (l.ps.map encLP)), s8, s9, s10, s11, s12] (w ++ [ls, us, fs]) = some (.nx [s0, s1, s2, s3, some (.cell (w.length + 2)), s5, some (.bl false), some (.lst (l.ps.map encLP)), s8, z9, z10, z11, s12] (w ++ [ls, us, fs ++ es])) ∧ es.length = vs.length ∧ FL es fun t => ∀ u ∈ vs, Bd l.F t (bv u.b t)
  | [], fs, s9, s10, s11, _, _ => ⟨[], s9, s10, s11, by simp [forLoopC], rfl, FL.nil.iff fun t => ⟨fun _ _ z => (nomatch z), fun _ => trivial⟩⟩
  | u :: vs, fs, s9, s10, s11, hu, hn => by
    have u1 := hu u List.mem_cons_self
    obtain ⟨f, e1, e2⟩ := G__law_pair_eq u1.q u1.e (cvx_Bd (F := l.F) u1.e) hl.pc hl.ok hl.pw .non .non (w ++ [ls, us, fs])
    have fn : fIsN A.non = some (.bl true) := rfl
    -- the entry
    have ent : ∃ a, FEnt a (fun t => Bd l.F t (bv u.b t)) ∧ sp2B [s0, s1, s2, s3, some (.cell (w.length + 2)), s5, some (.bl false), some (.lst (l.ps.map encLP)), s8, some (.lst [.tup [.non, .non, encQ u.q]]), some (.bl false), s11, s12] (w ++ [ls, us, fs]) = some (.nx [s0, s1, s2, s3, some (.cell (w.length + 2)), s5, some (.bl false), some (.lst (l.ps.map encLP)), s8, some (.lst [.tup [.non, .non, encQ u.q]]), some (.bl false), some f, s12] (w ++ [ls, us, fs ++ [a]])) := by
      have sm : fs.length ≤ 10000 := by
        simp only [List.length_cons] at hn
        omega
      rcases e2 with ⟨rfl, h1⟩ | ⟨lo, hi, a, b, rfl, h1, h2, h3, h4⟩
      · exact ⟨.non, .inl ⟨rfl, h1⟩, by simp [sp2B, e1, xApp, sm]⟩
      · exact ⟨.tup [lo, hi, .bl false], .inr ⟨lo, hi, a, b, rfl, h1, h2, h4⟩, by simp [sp2B, e1, xApp, sm]⟩
    obtain ⟨a, a1, a2⟩ := ent
    obtain ⟨es, z9, z10, z11, f1, f2, f3⟩ := sp2_in hl w ls us s0 s1 s2 s3 s5 s8 s12 vs (fs ++ [a]) (some (.lst [.tup [.non, .non, encQ u.q]])) (some (.bl false)) (some f) (fun v hv => hu v (List.mem_cons_of_mem _ hv)) (by simp only [List.length_cons, List.length_append, List.length_nil] at hn ⊢; omega)
    refine ⟨a :: es, z9, z10, z11, ?_, by simp [f2], ((FL.one a1).append f3).iff fun t => ?_⟩
    · rw [List.map_cons]
      conv => lhs; unfold forLoopC
      rw [if_pos (c3_1 w ls us fs)]
      have st : (xTupG (xConsG (xName 9) (xConsG (xName 10) (xNilG)))) (encUU u) [s0, s1, s2, s3, some (.cell (w.length + 2)), s5, some (.bl false), some (.lst (l.ps.map encLP)), s8, s9, s10, s11, s12] = some [s0, s1, s2, s3, some (.cell (w.length + 2)), s5, some (.bl false), some (.lst (l.ps.map encLP)), s8, some (.lst [.tup [.non, .non, encQ u.q]]), some (.bl false), s11, s12] := rfl
      rw [st]
      dsimp only [Option.bind_some]
      rw [a2]
      dsimp only [Option.bind_some]
      rw [f1, List.append_assoc]
      rfl
    · constructor
      · rintro ⟨h1, h2⟩ v hv
        rcases List.mem_cons.mp hv with rfl | hv
        · exact h1
        · exact h2 v hv
      · exact fun h => ⟨h u List.mem_cons_self, fun v hv => h v (List.mem_cons_of_mem _ hv)⟩
def sp3B : GS := xForC 3 (xTupG (xConsG (xName 9) (xConsG (xName 10) (xNilG)))) sp2B
theorem sp3_out {vs : List UU} (hu : ∀ u ∈ vs, UUOk u) (w : W) (ls : List A) (s0 s1 s2 s5 s8 s12 : Option A) : ∀ (ms : List LL) (fs : List A) (s6 s7 s9 s10 s11 : Option A), (∀ l ∈ ms, LLOk l) → fs.length + ms.length * vs.length ≤ 10000 →
    ∃ es z6 z7 z9 z10 z11, forLoopC w.length ls (xTupG (xConsG (xName 7) (xConsG (xName 6) (xNilG)))) sp3B (ms.map encLL) [s0, s1, s2, some (.cell (w.length + 1)), some (.cell (w.length + 2)), s5, s6, s7, s8, s9, s10, s11, s12] (w ++ [ls, vs.map encUU, fs]) = some (.nx [s0, s1, s2, some (.cell (w.length + 1)), some (.cell (w.length + 2)), s5, z6, z7, s8, z9, z10, z11, s12] (w ++ [ls, vs.map encUU, fs ++ es])) ∧ FL es fun t => ∀ l ∈ ms, ∀ u ∈ vs, Bd l.F t (bv u.b t)
  | [], fs, s6, s7, s9, s10, s11, _, _ => ⟨[], s6, s7, s9, s10, s11, by simp [forLoopC], FL.nil.iff fun t => ⟨fun _ _ z => (nomatch z), fun _ => trivial⟩⟩
  | l :: ms, fs, s6, s7, s9, s10, s11, hl, hn => by
    simp only [List.length_cons, Nat.add_mul, Nat.one_mul] at hn
    obtain ⟨es, y9, y10, y11, e1, e2, e3⟩ := sp2_in (hl l List.mem_cons_self) w ls (vs.map encUU) s0 s1 s2 (some (.cell (w.length + 1))) s5 s8 s12 vs fs s9 s10 s11 hu (by omega)
    obtain ⟨es', z6, z7, z9, z10, z11, f1, f2⟩ := sp3_out hu w ls s0 s1 s2 s5 s8 s12 ms (fs ++ es) (some (.bl false)) (some (.lst (l.ps.map encLP))) y9 y10 y11 (fun m hm => hl m (List.mem_cons_of_mem _ hm)) (by rw [List.length_append, e2]; omega)
    refine ⟨es ++ es', z6, z7, z9, z10, z11, ?_, (e3.append f2).iff fun t => ?_⟩
    · rw [List.map_cons]
      conv => lhs; unfold forLoopC
      rw [if_pos (c3_0 w ls (vs.map encUU) fs)]
      have st : (xTupG (xConsG (xName 7) (xConsG (xName 6) (xNilG)))) (encLL l) [s0, s1, s2, some (.cell (w.length + 1)), some (.cell (w.length + 2)), s5, s6, s7, s8, s9, s10, s11, s12] = some [s0, s1, s2, some (.cell (w.length + 1)), some (.cell (w.length + 2)), s5, some (.bl false), some (.lst (l.ps.map encLP)), s8, s9, s10, s11, s12] := rfl
      rw [st]
      dsimp only [Option.bind_some]
      have bd : sp3B [s0, s1, s2, some (.cell (w.length + 1)), some (.cell (w.length + 2)), s5, some (.bl false), some (.lst (l.ps.map encLP)), s8, s9, s10, s11, s12] (w ++ [ls, vs.map encUU, fs]) = some (.nx [s0, s1, s2, some (.cell (w.length + 1)), some (.cell (w.length + 2)), s5, some (.bl false), some (.lst (l.ps.map encLP)), s8, y9, y10, y11, s12] (w ++ [ls, vs.map encUU, fs ++ es])) := by
        unfold sp3B xForC
        show ((w ++ [ls, vs.map encUU, fs])[w.length + 1]?).bind _ = _
        rw [c3_1]
        exact e1
      rw [bd]
      dsimp only [Option.bind_some]
      rw [f1, List.append_assoc]
    · constructor
      · rintro ⟨h1, h2⟩ m hm
        rcases List.mem_cons.mp hm with rfl | hm
        · exact h1
        · exact h2 m hm
      · exact fun h => ⟨h l List.mem_cons_self, fun m hm => h m (List.mem_cons_of_mem _ hm)⟩
/-! ### the asks are sorted -/
def llOf (a : Ask) : LL := ⟨a.lparts, a.fam⟩
def uqOf (a : Ask) : Qd := match a.lparts with
  | l :: _ => l.q
  | [] => ⟨0, 0, 0, 0⟩
def uuOf (a : Ask) : UU := ⟨uqOf a, a.line⟩
def uprOf : Ask → A
  | .dives _ s => .tup [.non, encL s.num 0 0 s.den, .bl false]
  | .climbs _ s => .tup [encL s.num 0 0 s.den, .non, .bl false]
  | _ => .non
theorem llOf_ok {a : Ask} (h : AskOk a) (hs : a.steep = false) : LLOk (llOf a) := ⟨by
  show Pieces (a.lparts.map (·.p)) _
  rw [lparts_map]
  exact pieces_ask h hs, lparts_ok h hs, lparts_order h⟩
theorem uuOf_ok {a : Ask} (h : AskOk a) (hs : a.steep = false) (hl : a.least = false) : UUOk (uuOf a) := by
  have q := lparts_q h hs
  have e := (line_ok h hs hl).2
  cases a with
  | over a => exact ⟨q _ List.mem_cons_self, e⟩
  | climbs x s => exact ⟨q _ List.mem_cons_self, e⟩
  | quick k => exact ⟨q _ List.mem_cons_self, e⟩
  | _ => cases hl
theorem uuOf_enc {a : Ask} (hl : a.least = false) : A.tup [.lst (a.lparts.map encLP), .bl false] = encUU (uuOf a) := by
  cases a with
  | over a => rfl
  | climbs x s => rfl
  | quick k => rfl
  | _ => cases hl
theorem upr_ent {a : Ask} (h : AskOk a) (hs : a.steep = true) : FEnt (uprOf a) a.up := by
  cases a with
  | dives x s =>
    have x0 : x = 0 := of_decide_eq_true hs
    refine .inr ⟨_, _, none, some (io s), rfl, .inl ⟨rfl, rfl⟩, .inr ⟨_, _, _, _, _, rfl, plain_LV (h.2.1.mono (by omega)) (by omega), rfl⟩, fun t => ?_⟩
    constructor
    · exact fun z => And.intro (fun _ q => (nomatch q)) (fun _ q => by cases q; exact z x0)
    · exact fun z _ => z.2 _ rfl
  | climbs x s =>
    have x0 : x = 0 := of_decide_eq_true hs
    refine .inr ⟨_, _, some (io s), none, rfl, .inr ⟨_, _, _, _, _, rfl, plain_LV (h.2.1.mono (by omega)) (by omega), rfl⟩, .inl ⟨rfl, rfl⟩, fun t => ?_⟩
    constructor
    · exact fun z => And.intro (fun _ q => by cases q; exact z x0) (fun _ q => (nomatch q))
    · exact fun z _ => z.1 _ rfl
  | _ => cases hs
def sp1B : GS := xIfS (xAnd (xOr (xT (xOp fEq (xOp fIx (xVar 5) (xC (.int 0))) (xC (.str "dives")))) (xT (xOp fEq (xOp fIx (xVar 5) (xC (.int 0))) (xC (.str "climbs"))))) (xT (xOp fEq (xOp fIx (xOp fIx (xVar 5) (xC (.int 1))) (xC (.int 0))) (xC (.int 0))))) (xSeq (xAsg (xCall G__law_plain (xConsA (xOp fIx (xVar 5) (xC (.int 2))) (xNilA))) (xName 8))
  (xApp 4 (xIf (xT (xOp fEq (xOp fIx (xVar 5) (xC (.int 0))) (xC (.str "dives")))) (xTup (xConsA (xC .non) (xConsA (xVar 8) (xConsA (xVar 6) (xNilA))))) (xTup (xConsA (xVar 8) (xConsA (xC .non) (xConsA (xVar 6) (xNilA)))))))) (xSeq (xAsg (xCall G__law_parts (xConsA (xVar 5) (xNilA))) (xTupG (xConsG (xName 12) (xConsG (xName 7) (xNilG)))))
  (xIfS (xT (xVar 12)) (xApp 2 (xTup (xConsA (xVar 7) (xConsA (xVar 6) (xNilA))))) (xApp 3 (xTup (xConsA (xVar 7) (xConsA (xVar 6) (xNilA)))))))
theorem sp1_step {a : Ask} (h : AskOk a) (w : W) (ls us fs : List A) (n1 : ls.length ≤ 10000) (n2 : us.length ≤ 10000) (n3 : fs.length ≤ 10000) (s0 s1 s7 s8 s9 s10 s11 s12 : Option A) :
    ∃ z7 z8 z12, sp1B [s0, s1, some (.cell w.length), some (.cell (w.length + 1)), some (.cell (w.length + 2)), some (encAsk a), some (.bl false), s7, s8, s9, s10, s11, s12] (w ++ [ls, us, fs]) = some (.nx [s0, s1, some (.cell w.length), some (.cell (w.length + 1)), some (.cell (w.length + 2)), some (encAsk a), some (.bl false), z7, z8, s9, s10, s11, z12]
      (w ++ [if a.steep = false ∧ a.least = true then ls ++ [encLL (llOf a)] else ls, if a.steep = false ∧ a.least = false then us ++ [encUU (uuOf a)] else us, if a.steep = true then fs ++ [uprOf a] else fs])) := by
  by_cases hs : a.steep = true
  · cases a with
    | dives x s =>
      have x0 : x = 0 := of_decide_eq_true hs
      subst x0
      have e : fIx (.tup [.str "dives", enc 0, enc s]) (.int 0) = some (.str "dives") ∧ fIx (.tup [.str "dives", enc 0, enc s]) (.int 1) = some (enc 0) ∧ fIx (.tup [.str "dives", enc 0, enc s]) (.int 2) = some (enc s) ∧ fIx (enc 0) (.int 0) = some (.int 0) := ⟨rfl, rfl, rfl, rfl⟩
      refine ⟨s7, some (encL s.num 0 0 s.den), s12, ?_⟩
      simp [sp1B, encAsk, words, -fIx, e, G__law_plain_eq, xApp, n3, hs, uprOf]
    | climbs x s =>
      have x0 : x = 0 := of_decide_eq_true hs
      subst x0
      have e : fIx (.tup [.str "climbs", enc 0, enc s]) (.int 0) = some (.str "climbs") ∧ fIx (.tup [.str "climbs", enc 0, enc s]) (.int 1) = some (enc 0) ∧ fIx (.tup [.str "climbs", enc 0, enc s]) (.int 2) = some (enc s) ∧ fIx (enc 0) (.int 0) = some (.int 0) := ⟨rfl, rfl, rfl, rfl⟩
      refine ⟨s7, some (encL s.num 0 0 s.den), s12, ?_⟩
      simp [sp1B, encAsk, words, -fIx, e, G__law_plain_eq, xApp, n3, hs, uprOf]
    | _ => cases hs
  · have hs' : a.steep = false := by simpa using hs
    have test : ∀ W0, xAnd (xOr (xT (xOp fEq (xOp fIx (xVar 5) (xC (.int 0))) (xC (.str "dives")))) (xT (xOp fEq (xOp fIx (xVar 5) (xC (.int 0))) (xC (.str "climbs"))))) (xT (xOp fEq (xOp fIx (xOp fIx (xVar 5) (xC (.int 1))) (xC (.int 0))) (xC (.int 0)))) [s0, s1, some (.cell w.length), some (.cell (w.length + 1)), some (.cell (w.length + 2)), some (encAsk a), some (.bl false), s7, s8, s9, s10, s11, s12] W0 = some (false, W0) := fun W0 => by
      cases a with
      | dives x s =>
        have n0 : ¬ x.num = 0 := num0 (of_decide_eq_false hs')
        have n0' : ¬ x = 0 := of_decide_eq_false hs'
        simp [encAsk, words, enc, n0']
      | climbs x s =>
        have n0' : ¬ x = 0 := of_decide_eq_false hs'
        simp [encAsk, words, enc, n0']
      | _ => simp [encAsk, words]
    have p := G__law_parts_eq h hs' (w ++ [ls, us, fs])
    refine ⟨some (.lst (a.lparts.map encLP)), s8, some (.bl a.least), ?_⟩
    unfold sp1B xIfS
    rw [test]
    dsimp only [Option.bind_some]
    rw [if_neg (by decide)]
    cases hl : a.least with
    | true =>
      rw [hl] at p
      simp [p, xApp, n1, hs']
      rfl
    | false =>
      rw [hl] at p
      simp [p, xApp, n2, hs', uuOf_enc hl]
end
end Sp
/-! LA 5: the law's slopes. -/
namespace Sp
noncomputable section
def lowsOf (as : List Ask) : List Ask := as.filter fun a => !a.steep && a.least
def uppsOf (as : List Ask) : List Ask := as.filter fun a => !a.steep && !a.least
def uprsOf (as : List Ask) : List Ask := as.filter fun a => a.steep
theorem sp1_walk (w : W) (s0 s1 s9 s10 s11 : Option A) : ∀ (as : List Ask) (ls us fs : List A) (s5 s6 s7 s8 s12 : Option A), (∀ a ∈ as, AskOk a) → ls.length + as.length ≤ 10000 → us.length + as.length ≤ 10000 → fs.length + as.length ≤ 10000 →
    ∃ z5 z6 z7 z8 z12, forLoop (xTupG (xConsG (xName 5) (xConsG (xName 6) (xNilG)))) sp1B (as.map encE) [s0, s1, some (.cell w.length), some (.cell (w.length + 1)), some (.cell (w.length + 2)), s5, s6, s7, s8, s9, s10, s11, s12] (w ++ [ls, us, fs]) =
      some (.nx [s0, s1, some (.cell w.length), some (.cell (w.length + 1)), some (.cell (w.length + 2)), z5, z6, z7, z8, s9, s10, s11, z12] (w ++ [ls ++ (lowsOf as).map fun a => encLL (llOf a), us ++ (uppsOf as).map fun a => encUU (uuOf a), fs ++ (uprsOf as).map uprOf]))
  | [], ls, us, fs, s5, s6, s7, s8, s12, _, _, _, _ => ⟨s5, s6, s7, s8, s12, by simp [lowsOf, uppsOf, uprsOf]⟩
  | a :: as, ls, us, fs, s5, s6, s7, s8, s12, h, n1, n2, n3 => by
    simp only [List.length_cons] at n1 n2 n3
    obtain ⟨z7, z8, z12, e⟩ := sp1_step (h a List.mem_cons_self) w ls us fs (by omega) (by omega) (by omega) s0 s1 s7 s8 s9 s10 s11 s12
    obtain ⟨y5, y6, y7, y8, y12, f⟩ := sp1_walk w s0 s1 s9 s10 s11 as (if a.steep = false ∧ a.least = true then ls ++ [encLL (llOf a)] else ls) (if a.steep = false ∧ a.least = false then us ++ [encUU (uuOf a)] else us) (if a.steep = true then fs ++ [uprOf a] else fs) (some (encAsk a)) (some (.bl false)) z7 z8 z12 (fun b hb => h b (List.mem_cons_of_mem _ hb)) (by split <;> first | (simp only [List.length_append, List.length_singleton]; omega) | omega) (by split <;> first | (simp only [List.length_append, List.length_singleton]; omega) | omega) (by split <;> first | (simp only [List.length_append, List.length_singleton]; omega) | omega)
    refine ⟨y5, y6, y7, y8, y12, ?_⟩
    rw [List.map_cons]
    conv => lhs; unfold forLoop
    have st : (xTupG (xConsG (xName 5) (xConsG (xName 6) (xNilG)))) (encE a) [s0, s1, some (.cell w.length), some (.cell (w.length + 1)), some (.cell (w.length + 2)), s5, s6, s7, s8, s9, s10, s11, s12] = some [s0, s1, some (.cell w.length), some (.cell (w.length + 1)), some (.cell (w.length + 2)), some (encAsk a), some (.bl false), s7, s8, s9, s10, s11, s12] := rfl
    rw [st]
    dsimp only [Option.bind_some]
    rw [e]
    dsimp only [Option.bind_some]
    rw [f]
    cases hs : a.steep <;> cases hl : a.least <;> simp [lowsOf, uppsOf, uprsOf, hs, hl]
theorem noCell_ent {a : A} {S : R → Prop} (h : FEnt a S) : A.noCell a = true := by
  have e : ∀ {x : A} {o : Option R}, LEnd 8886 x o → A.noCell x = true := fun {x o} h => by
    rcases h with ⟨rfl, _⟩ | ⟨b, s, r, d, y, rfl, _⟩ <;> rfl
  rcases h with ⟨rfl, _⟩ | ⟨lo, hi, l, h, rfl, h1, h2, _⟩
  · rfl
  · simp [A.noCell, A.noCells, e h1, e h2]
theorem noCells_FL {es : List A} {S : R → Prop} (h : FL es S) : A.noCells es = true := by
  obtain ⟨Es, rfl, h2, h3⟩ := h
  clear h3
  induction Es with
  | nil => rfl
  | cons p Es ih =>
    rw [List.map_cons]
    unfold A.noCells
    rw [noCell_ent (h2 p List.mem_cons_self), ih fun q hq => h2 q (List.mem_cons_of_mem _ hq)]
    rfl
theorem uprs_FL {as : List Ask} (h : ∀ a ∈ as, AskOk a) : FL ((uprsOf as).map uprOf) fun t => ∀ a ∈ as, a.up t := by
  refine ⟨(uprsOf as).map fun a => (uprOf a, a.up), by rw [List.map_map]; rfl, fun p hp => ?_, fun t => ?_⟩
  · obtain ⟨a, ha, rfl⟩ := List.mem_map.mp hp
    obtain ⟨h1, h2⟩ := List.mem_filter.mp ha
    exact upr_ent (h a h1) h2
  · constructor
    · intro z p hp
      obtain ⟨a, ha, rfl⟩ := List.mem_map.mp hp
      exact z a (List.mem_filter.mp ha).1
    · intro z a ha
      by_cases hs : a.steep = true
      · exact z (uprOf a, a.up) (List.mem_map.mpr ⟨a, List.mem_filter.mpr ⟨ha, hs⟩, rfl⟩)
      · cases a with
        | dives x s => exact fun q => absurd (decide_eq_true q) hs
        | climbs x s => exact fun q => absurd (decide_eq_true q) hs
        | _ => trivial
def headLL (hd : Rat) : LL := ⟨[headLP hd], famHead (1 / (4 * hd))⟩
theorem G__law_spans_eq {hd : Rat} {as : List Ask} (h0 : 0 < hd) (hh : Sz 100 hd) (h : ∀ a ∈ as, AskOk a) (hn : as.length ≤ 90) {w : W} (hw : A.plain w = true) : ∃ es, G__law_spans [enc hd, .lst (as.map encE)] w = some (.lst es, w) ∧ FL es (Sem hd as) := by
  obtain ⟨hp1, hp2⟩ := G__law_head_eq hh h0 w
  have cnt : ∀ p : Ask → Bool, (as.filter p).length ≤ 90 := fun p => Nat.le_trans (List.length_filter_le _ _) hn
  obtain ⟨z5, z6, z7, z8, z12, e1⟩ := sp1_walk w (some (enc hd)) (some (.lst (as.map encE))) none none none as [encLL (headLL hd)] [] [] none none none none none h (by simp; omega) (by simp; omega) (by simp; omega)
  have hl : ∀ l ∈ headLL hd :: (lowsOf as).map llOf, LLOk l := fun l hl => by
    rcases List.mem_cons.mp hl with rfl | hl
    · refine ⟨pieces_head (inv_pos4 h0), fun p hp => ?_, List.pairwise_singleton _ _⟩
      rw [List.mem_singleton.mp hp]
      exact hp2
    · obtain ⟨a, ha, rfl⟩ := List.mem_map.mp hl
      obtain ⟨a1, a2⟩ := List.mem_filter.mp ha
      have a3 : a.steep = false := by
        cases hs : a.steep with
        | false => rfl
        | true => rw [hs] at a2; cases a2
      exact llOf_ok (h a a1) a3
  have split : ∀ {a : Ask}, a ∈ uppsOf as → a ∈ as ∧ a.steep = false ∧ a.least = false := fun {a} ha => by
    obtain ⟨a1, a2⟩ := List.mem_filter.mp ha
    cases hs : a.steep with
    | true => rw [hs] at a2; cases a2
    | false =>
      cases hl : a.least with
      | true => rw [hs, hl] at a2; cases a2
      | false => exact ⟨a1, rfl, rfl⟩
  have split2 : ∀ {a : Ask}, a ∈ lowsOf as → a ∈ as ∧ a.steep = false ∧ a.least = true := fun {a} ha => by
    obtain ⟨a1, a2⟩ := List.mem_filter.mp ha
    cases hs : a.steep with
    | true => rw [hs] at a2; cases a2
    | false =>
      cases hl : a.least with
      | false => rw [hs, hl] at a2; cases a2
      | true => exact ⟨a1, rfl, rfl⟩
  have hu : ∀ u ∈ (uppsOf as).map uuOf, UUOk u := fun u hu => by
    obtain ⟨a, ha, rfl⟩ := List.mem_map.mp hu
    obtain ⟨a1, a2, a3⟩ := split ha
    exact uuOf_ok (h a a1) a2 a3
  have nb : ((uprsOf as).map uprOf).length + (headLL hd :: (lowsOf as).map llOf).length * ((uppsOf as).map uuOf).length ≤ 10000 := by
    simp only [List.length_map, List.length_cons]
    have c1 := cnt fun a => a.steep
    have c2 : (lowsOf as).length ≤ 90 := cnt _
    have c3 : (uppsOf as).length ≤ 90 := cnt _
    have c4 : (uprsOf as).length ≤ 90 := c1
    have := Nat.mul_le_mul (show (lowsOf as).length + 1 ≤ 91 by omega) c3
    omega
  have q := uprs_FL h
  obtain ⟨es, y6, y7, y9, y10, y11, f1, f2⟩ := sp3_out hu w ((headLL hd :: (lowsOf as).map llOf).map encLL) (some (enc hd)) (some (.lst (as.map encE))) (some (.cell w.length)) z5 z8 z12 (headLL hd :: (lowsOf as).map llOf) ((uprsOf as).map uprOf) z6 z7 none none none hl nb
  have all := q.append f2
  refine ⟨(uprsOf as).map uprOf ++ es, ?_, all.iff fun t => ?_⟩
  · have body : (xSeq (xFor (yLst (xVar 1)) (xTupG (xConsG (xName 5) (xConsG (xName 6) (xNilG)))) sp1B) (xSeq (xForC 2 (xTupG (xConsG (xName 7) (xConsG (xName 6) (xNilG)))) sp3B) (xRet (xVar 4)))) [some (enc hd), some (.lst (as.map encE)), some (.cell w.length), some (.cell (w.length + 1)), some (.cell (w.length + 2)), none, none, none, none, none, none, none, none] (w ++ [[encLL (headLL hd)], [], []]) = some (.rt (.cell (w.length + 2)) (w ++ [(headLL hd :: (lowsOf as).map llOf).map encLL, ((uppsOf as).map uuOf).map encUU, (uprsOf as).map uprOf ++ es])) := by
      have g1 : xFor (yLst (xVar 1)) (xTupG (xConsG (xName 5) (xConsG (xName 6) (xNilG)))) sp1B [some (enc hd), some (.lst (as.map encE)), some (.cell w.length), some (.cell (w.length + 1)), some (.cell (w.length + 2)), none, none, none, none, none, none, none, none] (w ++ [[encLL (headLL hd)], [], []]) = some (.nx [some (enc hd), some (.lst (as.map encE)), some (.cell w.length), some (.cell (w.length + 1)), some (.cell (w.length + 2)), z5, z6, z7, z8, none, none, none, z12] (w ++ [(headLL hd :: (lowsOf as).map llOf).map encLL, ((uppsOf as).map uuOf).map encUU, (uprsOf as).map uprOf])) := by
        refine e1.trans ?_
        rw [List.map_cons, List.map_map, List.map_map]
        rfl
      rw [xSeq_eq g1]
      have g2 : xForC 2 (xTupG (xConsG (xName 7) (xConsG (xName 6) (xNilG)))) sp3B [some (enc hd), some (.lst (as.map encE)), some (.cell w.length), some (.cell (w.length + 1)), some (.cell (w.length + 2)), z5, z6, z7, z8, none, none, none, z12] (w ++ [(headLL hd :: (lowsOf as).map llOf).map encLL, ((uppsOf as).map uuOf).map encUU, (uprsOf as).map uprOf]) = some (.nx [some (enc hd), some (.lst (as.map encE)), some (.cell w.length), some (.cell (w.length + 1)), some (.cell (w.length + 2)), z5, y6, y7, z8, y9, y10, y11, z12] (w ++ [(headLL hd :: (lowsOf as).map llOf).map encLL, ((uppsOf as).map uuOf).map encUU, (uprsOf as).map uprOf ++ es])) := by
        unfold xForC
        show ((w ++ [(headLL hd :: (lowsOf as).map llOf).map encLL, ((uppsOf as).map uuOf).map encUU, (uprsOf as).map uprOf])[w.length]?).bind _ = _
        rw [c3_0]
        exact f1
      rw [xSeq_eq g2]
      rfl
    have nc := noCells_FL all
    have fin : xFin w.length (.rt (.cell (w.length + 2)) (w ++ [(headLL hd :: (lowsOf as).map llOf).map encLL, ((uppsOf as).map uuOf).map encUU, (uprsOf as).map uprOf ++ es])) = some (.rt (.lst ((uprsOf as).map uprOf ++ es)) w) := by
      unfold xFin
      dsimp only
      rw [if_pos (by omega), c3_2]
      dsimp only [Option.bind_some]
      rw [List.take_left, nc, hw]
      rfl
    unfold G__law_spans
    refine (xDef_eq (n := 2) (as := [_, _]) rfl).trans ?_
    have al : B__law_spans [some (enc hd), some (.lst (as.map encE)), none, none, none, none, none, none, none, none, none, none, none] w = some (.rt (.lst ((uprsOf as).map uprOf ++ es)) w) := by
      have hd1 : (xConsA (xTup (xConsA (xCall G__law_head_part (xConsA (xVar 0) (xNilA))) (xConsA (xC (.bl false)) (xNilA)))) (xNilA)) [some (enc hd), some (.lst (as.map encE)), none, none, none, none, none, none, none, none, none, none, none] w = some ([encLL (headLL hd)], w) := by
        simp [hp1]
        rfl
      show xAlloc3 2 3 4 _ (xSeq (xFor (yLst (xVar 1)) (xTupG (xConsG (xName 5) (xConsG (xName 6) (xNilG)))) sp1B) (xSeq (xForC 2 (xTupG (xConsG (xName 7) (xConsG (xName 6) (xNilG)))) sp3B) (xRet (xVar 4)))) _ w = _
      unfold xAlloc3
      rw [hd1]
      dsimp only [Option.bind_some]
      rw [if_pos (show small [encLL (headLL hd)].length = true from rfl)]
      refine (congrArg (fun o => Option.bind o (xFin w.length)) body).trans ?_
      exact fin
    show xDef.xRun (B__law_spans [some (enc hd), some (.lst (as.map encE)), none, none, none, none, none, none, none, none, none, none, none] w) = _
    rw [al]
    rfl
  · constructor
    · rintro ⟨h1, h2⟩
      refine ⟨h1, fun u hu su lu => ?_, fun u hu su lu l hl sl ll => ?_⟩
      · exact h2 (headLL hd) List.mem_cons_self (uuOf u) (List.mem_map_of_mem (List.mem_filter.mpr ⟨hu, by rw [su, lu]; rfl⟩))
      · exact h2 (llOf l) (List.mem_cons_of_mem _ (List.mem_map_of_mem (List.mem_filter.mpr ⟨hl, by rw [sl, ll]; rfl⟩))) (uuOf u) (List.mem_map_of_mem (List.mem_filter.mpr ⟨hu, by rw [su, lu]; rfl⟩))
    · rintro ⟨h1, h2, h3⟩
      refine ⟨h1, fun l hl u hu => ?_⟩
      obtain ⟨a, ha, rfl⟩ := List.mem_map.mp hu
      obtain ⟨a1, a2, a3⟩ := split ha
      rcases List.mem_cons.mp hl with rfl | hl
      · exact h2 a a1 a2 a3
      · obtain ⟨b, hb, rfl⟩ := List.mem_map.mp hl
        obtain ⟨b1, b2, b3⟩ := split2 hb
        exact h3 a a1 a2 a3 b b1 b2 b3
end
end Sp
/-! LA 6: the law's slopes. -/
namespace Sp
noncomputable section
def slA : GS := xIfS (xT (xUn fNotN (xOp fIx (xVar 2) (xC (.int 0))))) (xSeq (xAsg (xIf (xT (xUn fIsN (xVar 4))) (xC (.int 1)) (xCall G__law_surd_order (xConsA (xOp fIx (xVar 2) (xC (.int 0))) (xConsA (xVar 4) (xNilA))))) (xName 3))
  (xSeq (xAsg (xIf (xT (xOp fGt (xVar 3) (xC (.int 0)))) (xOp fIx (xVar 2) (xC (.int 2))) (xOrV (xVar 6) (xAndV (xOp fEq (xVar 3) (xC (.int 0))) (xOp fIx (xVar 2) (xC (.int 2)))))) (xName 6))
  (xAsg (xIf (xT (xOp fGt (xVar 3) (xC (.int 0)))) (xOp fIx (xVar 2) (xC (.int 0))) (xVar 4)) (xName 4)))) (xNext)
def slH : GS := xIfS (xT (xUn fNotN (xOp fIx (xVar 2) (xC (.int 1))))) (xSeq (xAsg (xIf (xT (xUn fIsN (xVar 5))) (xC (.int 1)) (xCall G__law_surd_order (xConsA (xVar 5) (xConsA (xOp fIx (xVar 2) (xC (.int 1))) (xNilA))))) (xName 3))
  (xSeq (xAsg (xIf (xT (xOp fGt (xVar 3) (xC (.int 0)))) (xOp fIx (xVar 2) (xC (.int 2))) (xOrV (xVar 7) (xAndV (xOp fEq (xVar 3) (xC (.int 0))) (xOp fIx (xVar 2) (xC (.int 2)))))) (xName 7))
  (xAsg (xIf (xT (xOp fGt (xVar 3) (xC (.int 0)))) (xOp fIx (xVar 2) (xC (.int 1))) (xVar 5)) (xName 5)))) (xNext)
def slB : GS := xSeq (xIfS (xT (xUn fIsN (xVar 2))) (xRet (xC .non)) (xNext)) (xSeq slA slH)
theorem slA_step {n : Nat} {a lo : A} {l p : Option R} (ha : LEnd n a l) (hp : LEnd n lo p) (hn : n ≤ 30000) (s0 s1 s3 : Option A) (hi b : A) (w : W) : ∃ z3 a' o, slA [s0, s1, some (.tup [lo, hi, .bl false]), s3, some a, some b, some (.bl false), some (.bl false)] w = some (.nx [s0, s1, some (.tup [lo, hi, .bl false]), z3, some a', some b, some (.bl false), some (.bl false)] w) ∧ LEnd n a' o ∧
    ∀ t, (∀ x, o = some x → x ≤ t) ↔ ((∀ x, l = some x → x ≤ t) ∧ ∀ x, p = some x → x ≤ t) := by
  have fn : fIsN A.non = some (.bl true) ∧ fNotN A.non = some (.bl false) := ⟨rfl, rfl⟩
  rcases hp with ⟨rfl, rfl⟩ | ⟨b', s', r', d', y, rfl, hy, rfl⟩
  · exact ⟨s3, a, l, by simp [slA], ha, fun t => by simp⟩
  · rcases ha with ⟨rfl, rfl⟩ | ⟨b1, s, r, d, x, rfl, hx, rfl⟩
    · exact ⟨some (.int 1), encL b' s' r' d', some y, by simp [slA, -fIsN, -fNotN, notN_encL, fn], .inr ⟨_, _, _, _, y, rfl, hy, rfl⟩, fun t => by simp⟩
    · have e := law_order (w := w) hy hx hn
      by_cases c : 0 < sg (y - x)
      · have c1 := sg_gt.mp c
        refine ⟨some (.int (sg (y - x))), encL b' s' r' d', some y, by simp [slA, -fIsN, -fNotN, isN_encL, notN_encL, fn, e, c], .inr ⟨_, _, _, _, y, rfl, hy, rfl⟩, fun t => ?_⟩
        simp
        intro
        grind
      · have c1 : ¬ 0 < y - x := fun z => c (sg_gt.mpr z)
        refine ⟨some (.int (sg (y - x))), encL b1 s r d, some x, ?_, .inr ⟨_, _, _, _, x, rfl, hx, rfl⟩, fun t => ?_⟩
        · by_cases z : sg (y - x) = 0
          · simp [slA, -fIsN, -fNotN, isN_encL, notN_encL, fn, e, z]
          · simp [slA, -fIsN, -fNotN, isN_encL, notN_encL, fn, e, c, z]
        · simp
          intro
          grind
theorem slH_step {n : Nat} {b hi : A} {l p : Option R} (hb : LEnd n b l) (hp : LEnd n hi p) (hn : n ≤ 30000) (s0 s1 s3 : Option A) (lo a : A) (w : W) : ∃ z3 b' o, slH [s0, s1, some (.tup [lo, hi, .bl false]), s3, some a, some b, some (.bl false), some (.bl false)] w = some (.nx [s0, s1, some (.tup [lo, hi, .bl false]), z3, some a, some b', some (.bl false), some (.bl false)] w) ∧ LEnd n b' o ∧
    ∀ t, (∀ x, o = some x → t ≤ x) ↔ ((∀ x, l = some x → t ≤ x) ∧ ∀ x, p = some x → t ≤ x) := by
  have fn : fIsN A.non = some (.bl true) ∧ fNotN A.non = some (.bl false) := ⟨rfl, rfl⟩
  rcases hp with ⟨rfl, rfl⟩ | ⟨b', s', r', d', y, rfl, hy, rfl⟩
  · exact ⟨s3, b, l, by simp [slH], hb, fun t => by simp⟩
  · rcases hb with ⟨rfl, rfl⟩ | ⟨b1, s, r, d, x, rfl, hx, rfl⟩
    · exact ⟨some (.int 1), encL b' s' r' d', some y, by simp [slH, -fIsN, -fNotN, notN_encL, fn], .inr ⟨_, _, _, _, y, rfl, hy, rfl⟩, fun t => by simp⟩
    · have e := law_order (w := w) hx hy hn
      by_cases c : 0 < sg (x - y)
      · have c1 := sg_gt.mp c
        refine ⟨some (.int (sg (x - y))), encL b' s' r' d', some y, by simp [slH, -fIsN, -fNotN, isN_encL, notN_encL, fn, e, c], .inr ⟨_, _, _, _, y, rfl, hy, rfl⟩, fun t => ?_⟩
        simp
        intro
        grind
      · have c1 : ¬ 0 < x - y := fun z => c (sg_gt.mpr z)
        refine ⟨some (.int (sg (x - y))), encL b1 s r d, some x, ?_, .inr ⟨_, _, _, _, x, rfl, hx, rfl⟩, fun t => ?_⟩
        · by_cases z : sg (x - y) = 0
          · simp [slH, -fIsN, -fNotN, isN_encL, notN_encL, fn, e, z]
          · simp [slH, -fIsN, -fNotN, isN_encL, notN_encL, fn, e, c, z]
        · simp
          intro
          grind
theorem sl_walk (s0 s1 : Option A) (w : W) : ∀ (Es : List (A × (R → Prop))) (a b : A) (l h : Option R) (s2 s3 : Option A), (∀ p ∈ Es, FEnt p.1 p.2) → LEnd 8886 a l → LEnd 8886 b h →
    (forLoop (xName 2) slB (Es.map Prod.fst) [s0, s1, s2, s3, some a, some b, some (.bl false), some (.bl false)] w = some (.rt .non w) ∧ ∀ t, ¬ (inI l h t ∧ ∀ p ∈ Es, p.2 t)) ∨
    ∃ a' b' l' h' z2 z3, forLoop (xName 2) slB (Es.map Prod.fst) [s0, s1, s2, s3, some a, some b, some (.bl false), some (.bl false)] w = some (.nx [s0, s1, z2, z3, some a', some b', some (.bl false), some (.bl false)] w) ∧ LEnd 8886 a' l' ∧ LEnd 8886 b' h' ∧ ∀ t, inI l' h' t ↔ (inI l h t ∧ ∀ p ∈ Es, p.2 t)
  | [], a, b, l, h, s2, s3, _, ha, hb => .inr ⟨a, b, l, h, s2, s3, by simp, ha, hb, fun t => ⟨fun z => ⟨z, fun _ q => (nomatch q)⟩, fun z => z.1⟩⟩
  | (e, S) :: Es, a, b, l, h, s2, s3, hE, ha, hb => by
    rcases hE _ List.mem_cons_self with ⟨h1, h2⟩ | ⟨lo, hi, p, q, h1, h2, h3, h4⟩
    · dsimp only at h1
      subst h1
      refine .inl ⟨by simp [slB], fun t z => h2 t (z.2 _ List.mem_cons_self)⟩
    · dsimp only at h1
      subst h1
      obtain ⟨y3, a', o, e1, e2, e3⟩ := slA_step ha h2 (by omega) s0 s1 s3 hi b w
      obtain ⟨x3, b', r, f1, f2, f3⟩ := slH_step hb h3 (by omega) s0 s1 y3 lo a' w
      have set : ∀ t, inI o r t ↔ (inI l h t ∧ S t) := fun t => by
        have := h4 t
        dsimp only at this
        rw [this]
        unfold inI
        rw [e3, f3]
        constructor
        · rintro ⟨⟨p1, p2⟩, p3, p4⟩
          exact ⟨⟨p1, p3⟩, p2, p4⟩
        · rintro ⟨⟨p1, p2⟩, p3, p4⟩
          exact ⟨⟨p1, p3⟩, p2, p4⟩
      have bd : slB [s0, s1, some (.tup [lo, hi, .bl false]), s3, some a, some b, some (.bl false), some (.bl false)] w = some (.nx [s0, s1, some (.tup [lo, hi, .bl false]), x3, some a', some b', some (.bl false), some (.bl false)] w) := by
        have g : xIfS (xT (xUn fIsN (xVar 2))) (xRet (xC .non)) (xNext) [s0, s1, some (.tup [lo, hi, .bl false]), s3, some a, some b, some (.bl false), some (.bl false)] w = some (.nx [s0, s1, some (.tup [lo, hi, .bl false]), s3, some a, some b, some (.bl false), some (.bl false)] w) := by simp
        unfold slB
        rw [xSeq_eq g, xSeq_eq e1]
        exact f1
      have run : forLoop (xName 2) slB ((A.tup [lo, hi, .bl false] :: Es.map Prod.fst)) [s0, s1, s2, s3, some a, some b, some (.bl false), some (.bl false)] w = forLoop (xName 2) slB (Es.map Prod.fst) [s0, s1, some (.tup [lo, hi, .bl false]), x3, some a', some b', some (.bl false), some (.bl false)] w := by
        conv => lhs; unfold forLoop
        show ((slB [s0, s1, some (.tup [lo, hi, .bl false]), s3, some a, some b, some (.bl false), some (.bl false)] w).bind _) = _
        rw [bd]
        rfl
      have comb : ∀ t, (inI o r t ∧ ∀ p ∈ Es, p.2 t) ↔ (inI l h t ∧ ∀ p ∈ (A.tup [lo, hi, .bl false], S) :: Es, p.2 t) := fun t => by
        rw [set]
        constructor
        · rintro ⟨⟨p1, p2⟩, p3⟩
          refine ⟨p1, fun x hx => ?_⟩
          rcases List.mem_cons.mp hx with rfl | hx
          · exact p2
          · exact p3 x hx
        · rintro ⟨p1, p2⟩
          exact ⟨⟨p1, p2 _ List.mem_cons_self⟩, fun x hx => p2 x (List.mem_cons_of_mem _ hx)⟩
      rw [List.map_cons]
      dsimp only
      rw [run]
      rcases sl_walk s0 s1 w Es a' b' o r (some (.tup [lo, hi, .bl false])) x3 (fun x hx => hE x (List.mem_cons_of_mem _ hx)) e2 f2 with ⟨k1, k2⟩ | ⟨a2, b2, l2, h2', z2, z3, k1, k2, k3, k4⟩
      · exact .inl ⟨k1, fun t z => k2 t ((comb t).mpr z)⟩
      · exact .inr ⟨a2, b2, l2, h2', z2, z3, k1, k2, k3, fun t => (k4 t).trans (comb t)⟩
theorem G__law_slopes_eq {hd : Rat} {as : List Ask} (h0 : 0 < hd) (hh : Sz 100 hd) (h : ∀ a ∈ as, AskOk a) (hn : as.length ≤ 90) {w : W} (hw : A.plain w = true) : ∃ res, G__law_slopes [enc hd, .lst (as.map encE)] w = some (res, w) ∧ LSpan 8886 res (Sem hd as) := by
  obtain ⟨es, e1, Es, rfl, e2, e3⟩ := G__law_spans_eq h0 hh h hn hw
  have fn : fIsN A.non = some (.bl true) ∧ fNotN A.non = some (.bl false) := ⟨rfl, rfl⟩
  have start : ∀ ss : SS, True := fun _ => trivial
  have tail : B__law_slopes = xSeq (xAsg (xTup (xConsA (xC .non) (xConsA (xC .non) (xConsA (xC (.bl false)) (xConsA (xC (.bl false)) (xNilA)))))) (xTupG (xConsG (xName 4) (xConsG (xName 5) (xConsG (xName 6) (xConsG (xName 7) (xNilG))))))) (xSeq (xFor (yLst (xCall G__law_spans (xConsA (xVar 0) (xConsA (xVar 1) (xNilA))))) (xName 2) slB) (xSeq (xIfS (xOr (xT (xUn fIsN (xVar 4))) (xT (xUn fIsN (xVar 5)))) (xRet (xTup (xConsA (xVar 4) (xConsA (xVar 5) (xNilA))))) (xNext)) (xSeq (xAsg (xCall G__law_surd_order (xConsA (xVar 4) (xConsA (xVar 5) (xNilA)))) (xName 3)) (xRet (xIf (xOr (xT (xOp fGt (xVar 3) (xC (.int 0)))) (xAnd (xT (xOp fEq (xVar 3) (xC (.int 0)))) (xOr (xT (xVar 6)) (xT (xVar 7))))) (xC .non) (xTup (xConsA (xVar 4) (xConsA (xVar 5) (xNilA))))))))) := rfl
  have run : ∀ out, forLoop (xName 2) slB (Es.map Prod.fst) [some (enc hd), some (.lst (as.map encE)), none, none, some .non, some .non, some (.bl false), some (.bl false)] w = some out → xFor (yLst (xCall G__law_spans (xConsA (xVar 0) (xConsA (xVar 1) (xNilA))))) (xName 2) slB [some (enc hd), some (.lst (as.map encE)), none, none, some .non, some .non, some (.bl false), some (.bl false)] w = some out := fun out ho => by
    simp [-forLoop, e1, ho]
  have shape : G__law_slopes [enc hd, .lst (as.map encE)] w = xDef.xRun (B__law_slopes [some (enc hd), some (.lst (as.map encE)), none, none, none, none, none, none] w) := (xDef_eq (n := 2) (as := [_, _]) rfl)
  have a0 : xAsg (xTup (xConsA (xC .non) (xConsA (xC .non) (xConsA (xC (.bl false)) (xConsA (xC (.bl false)) (xNilA)))))) (xTupG (xConsG (xName 4) (xConsG (xName 5) (xConsG (xName 6) (xConsG (xName 7) (xNilG)))))) [some (enc hd), some (.lst (as.map encE)), none, none, none, none, none, none] w = some (.nx [some (enc hd), some (.lst (as.map encE)), none, none, some .non, some .non, some (.bl false), some (.bl false)] w) := by simp
  have sem : ∀ t, (inI none none t ∧ ∀ p ∈ Es, p.2 t) ↔ Sem hd as t := fun t => by
    rw [e3]
    exact ⟨fun z => z.2, fun z => ⟨And.intro (fun _ q => (nomatch q)) (fun _ q => (nomatch q)), z⟩⟩
  rw [shape, tail, xSeq_eq a0]
  rcases sl_walk (some (enc hd)) (some (.lst (as.map encE))) w Es .non .non none none none none e2 (.inl ⟨rfl, rfl⟩) (.inl ⟨rfl, rfl⟩) with ⟨k1, k2⟩ | ⟨a', b', l', h', z2, z3, k1, k2, k3, k4⟩
  · refine ⟨.non, ?_, .inl ⟨rfl, fun t z => k2 t ((sem t).mpr z)⟩⟩
    unfold xSeq
    rw [run _ k1]
    rfl
  · rw [xSeq_eq (run _ k1)]
    have set : ∀ t, Sem hd as t ↔ inI l' h' t := fun t => ((k4 t).trans (sem t)).symm
    rcases k2 with ⟨rfl, rfl⟩ | ⟨b1, s1, r1, d1, x, rfl, hx, rfl⟩
    · exact ⟨.tup [.non, b'], by simp, .inr ⟨_, _, _, _, rfl, .inl ⟨rfl, rfl⟩, k3, fun _ _ z => (nomatch z), set⟩⟩
    · rcases k3 with ⟨rfl, rfl⟩ | ⟨b2, s2, r2, d2, y, rfl, hy, rfl⟩
      · exact ⟨.tup [encL b1 s1 r1 d1, .non], by simp [-fIsN, isN_encL, fn], .inr ⟨_, _, _, _, rfl, .inr ⟨_, _, _, _, x, rfl, hx, rfl⟩, .inl ⟨rfl, rfl⟩, fun _ _ _ z => (nomatch z), set⟩⟩
      · have e := law_order (w := w) hx hy (by omega)
        by_cases c : 0 < sg (x - y)
        · have c1 := sg_gt.mp c
          refine ⟨.non, by simp [-fIsN, isN_encL, fn, e, c], .inl ⟨rfl, fun t z => ?_⟩⟩
          obtain ⟨p1, p2⟩ := (set t).mp z
          have q1 := p1 _ rfl
          have q2 := p2 _ rfl
          grind
        · have c1 : ¬ 0 < x - y := fun z => c (sg_gt.mpr z)
          refine ⟨.tup [encL b1 s1 r1 d1, encL b2 s2 r2 d2], ?_, .inr ⟨_, _, _, _, rfl, .inr ⟨_, _, _, _, x, rfl, hx, rfl⟩, .inr ⟨_, _, _, _, y, rfl, hy, rfl⟩, fun p q z1 z2 => by cases z1; cases z2; grind, set⟩⟩
          by_cases z : sg (x - y) = 0
          · simp [-fIsN, isN_encL, fn, e, z]
          · simp [-fIsN, isN_encL, fn, e, c, z]
theorem LSpan.none_iff {n : Nat} {a : A} {S : R → Prop} (h : LSpan n a S) : a = .non ↔ ∀ t, ¬ S t := by
  rcases h with ⟨h1, h2⟩ | ⟨lo, hi, l, h, rfl, _, _, h3, h4⟩
  · exact ⟨fun _ => h2, fun _ => h1⟩
  · constructor
    · intro z
      cases z
    · intro z
      obtain ⟨t, ht⟩ := inI_ne h3
      exact absurd ((h4 t).mpr ht) (z t)
end
end Sp
/-! GU 1: guards: one or two of them do, if all do. -/
namespace Sp
noncomputable section
theorem Sem.perm {hd : Rat} {as bs : List Ask} (h : ∀ a, a ∈ as ↔ a ∈ bs) (t : R) : Sem hd as t ↔ Sem hd bs t := by
  constructor
  · rintro ⟨h1, h2, h3⟩
    exact ⟨fun a ha => h1 a ((h a).mpr ha), fun u hu => h2 u ((h u).mpr hu), fun u hu su lu l hl => h3 u ((h u).mpr hu) su lu l ((h l).mpr hl)⟩
  · rintro ⟨h1, h2, h3⟩
    exact ⟨fun a ha => h1 a ((h a).mp ha), fun u hu => h2 u ((h u).mp hu), fun u hu su lu l hl => h3 u ((h u).mp hu) su lu l ((h l).mp hl)⟩
theorem Bd_famB {b : Bt} (he : b.e = 0) (t y : R) : Bd (famB b) t y ↔ bv b t ≤ y := by
  rw [bv_lin he]
  constructor
  · exact fun h => h _ _ ⟨rfl, rfl⟩
  · rintro h p q ⟨rfl, rfl⟩
    exact h
theorem Bd_mono {F : R → R → Prop} {t y z : R} (h : Bd F t y) (hyz : y ≤ z) : Bd F t z := fun p q hF => by
  have := h p q hF
  grind
/-- a guard: a post or a curtain -/
structure Gd where
  post : Bool
  a : Pl
def Gd.ask (g : Gd) : Ask := if g.post then .over g.a else .under g.a
def Gd.half (p : Pl) (g : Gd) (t : R) : Prop := if g.post then bv (lineB p.x p.y) t ≤ bv (lineB g.a.x g.a.y) t else bv (lineB g.a.x g.a.y) t ≤ bv (lineB p.x p.y) t
/-- what asks, a place that is hit, and guards ask together -/
def Wt (hd : Rat) (as : List Ask) (p : Pl) (gs : List Gd) (t : R) : Prop := Sem hd (as ++ [.over p, .under p] ++ gs.map Gd.ask) t
theorem lin_e (x y : Rat) : (lineB x y).e = 0 := rfl
theorem Wt_iff {hd : Rat} {as : List Ask} {p : Pl} {gs : List Gd} (t : R) : Wt hd as p gs t ↔ (Wt hd as p [] t ∧ ∀ g ∈ gs, g.half p t) := by
  unfold Wt
  have me : ∀ x, x ∈ as ++ [Ask.over p, .under p] ++ gs.map Gd.ask ↔ (x ∈ as ++ [Ask.over p, .under p] ∨ x ∈ gs.map Gd.ask) := fun x => List.mem_append
  have mo : Ask.over p ∈ as ++ [Ask.over p, .under p] := List.mem_append_right _ List.mem_cons_self
  have mu : Ask.under p ∈ as ++ [Ask.over p, .under p] := List.mem_append_right _ (List.mem_cons_of_mem _ List.mem_cons_self)
  rw [List.map_nil, List.append_nil]
  constructor
  · rintro ⟨h1, h2, h3⟩
    refine ⟨⟨fun a ha => h1 a ((me a).mpr (.inl ha)), fun u hu => h2 u ((me u).mpr (.inl hu)), fun u hu su lu l hl => h3 u ((me u).mpr (.inl hu)) su lu l ((me l).mpr (.inl hl))⟩, fun g hg => ?_⟩
    have gm : g.ask ∈ gs.map Gd.ask := List.mem_map_of_mem hg
    obtain ⟨post, a⟩ := g
    cases post with
    | true => exact (Bd_famB (lin_e _ _) t _).mp (h3 (.over a) ((me _).mpr (.inr gm)) rfl rfl (.under p) ((me _).mpr (.inl mu)) rfl rfl)
    | false => exact (Bd_famB (lin_e _ _) t _).mp (h3 (.over p) ((me _).mpr (.inl mo)) rfl rfl (.under a) ((me _).mpr (.inr gm)) rfl rfl)
  · rintro ⟨⟨h1, h2, h3⟩, h4⟩
    have upG : ∀ u, u ∈ gs.map Gd.ask → u.least = false → bv (lineB p.x p.y) t ≤ bv u.line t := fun u hu lu => by
      obtain ⟨⟨post, a⟩, hg, rfl⟩ := List.mem_map.mp hu
      cases post with
      | true => exact h4 _ hg
      | false => cases lu
    have loG : ∀ l, l ∈ gs.map Gd.ask → l.least = true → ∀ y, bv (lineB p.x p.y) t ≤ y → Bd l.fam t y := fun l hl ll y hy => by
      obtain ⟨⟨post, a⟩, hg, rfl⟩ := List.mem_map.mp hl
      cases post with
      | true => cases ll
      | false =>
        refine (Bd_famB (lin_e _ _) t _).mpr ?_
        have : bv (lineB a.x a.y) t ≤ bv (lineB p.x p.y) t := h4 _ hg
        grind
    refine ⟨fun a ha => ?_, fun u hu su lu => ?_, fun u hu su lu l hl sl ll => ?_⟩
    · rcases (me a).mp ha with ha | ha
      · exact h1 a ha
      · obtain ⟨⟨post, b⟩, hg, rfl⟩ := List.mem_map.mp ha
        cases post <;> trivial
    · rcases (me u).mp hu with hu | hu
      · exact h2 u hu su lu
      · exact Bd_mono (h2 (.over p) mo rfl rfl) (upG u hu lu)
    · rcases (me u).mp hu with hu | hu
      · rcases (me l).mp hl with hl | hl
        · exact h3 u hu su lu l hl sl ll
        · exact loG l hl ll _ ((Bd_famB (lin_e _ _) t _).mp (h3 u hu su lu (.under p) mu rfl rfl))
      · rcases (me l).mp hl with hl | hl
        · exact Bd_mono (h3 (.over p) mo rfl rfl l hl sl ll) (upG u hu lu)
        · exact loG l hl ll _ (upG u hu lu)
/-- a post lets in the steeper, a curtain the flatter -/
theorem half_up {p : Pl} {g : Gd} (hp : 0 < g.a.x) (hg : g.a.x < p.x) {s t : R} (hst : s ≤ t) : (g.post = true → g.half p s → g.half p t) ∧ (g.post = false → g.half p t → g.half p s) := by
  have n1 : g.a.x ≠ 0 := by grind
  have n2 : p.x ≠ 0 := by grind
  have inv : 1 / p.x < 1 / g.a.x := by
    have p1 := Rat.inv_pos.mpr hp
    have p2 := Rat.inv_pos.mpr (show 0 < p.x by grind)
    have q1 := Rat.mul_inv_cancel _ n1
    have q2 := Rat.mul_inv_cancel _ n2
    have z := Rat.mul_lt_mul_of_pos_right hg (Rat.mul_pos p1 p2)
    have e1 : g.a.x * (g.a.x⁻¹ * p.x⁻¹) = p.x⁻¹ := by grind
    have e2 : p.x * (g.a.x⁻¹ * p.x⁻¹) = g.a.x⁻¹ := by grind
    rw [e1, e2] at z
    rw [Rat.div_def, Rat.div_def]
    grind
  have U := io_lt.mpr inv
  have e1 : ∀ t, bv (lineB p.x p.y) t = io (lineB p.x p.y).c + io (1 / p.x) * t := fun t => bv_lin rfl t
  have e2 : ∀ t, bv (lineB g.a.x g.a.y) t = io (lineB g.a.x g.a.y).c + io (1 / g.a.x) * t := fun t => bv_lin rfl t
  have k := R.mul_nonneg (a := io (1 / g.a.x) - io (1 / p.x)) (b := t - s) (by grind) (by grind)
  generalize io (1 / g.a.x) = u at *
  generalize io (1 / p.x) = v at *
  unfold Gd.half
  constructor
  · intro z
    rw [if_pos z, if_pos z, e1, e1, e2, e2]
    intro h
    grind
  · intro z
    rw [if_neg (by rw [z]; decide), if_neg (by rw [z]; decide), e1, e1, e2, e2]
    intro h
    grind
structure GdOk (p : Pl) (g : Gd) : Prop where
  x0 : 0 < g.a.x
  lt : g.a.x < p.x
/-- of guards of a kind one is the tightest -/
theorem tight {p : Pl} (k : Bool) : ∀ gs : List Gd, (∀ g ∈ gs, GdOk p g) → (∀ g ∈ gs, g.post ≠ k) ∨ ∃ g ∈ gs, g.post = k ∧ ∀ g' ∈ gs, g'.post = k → ∀ t, g.half p t → g'.half p t
  | [], _ => .inl fun _ z => (nomatch z)
  | g :: gs, h => by
    by_cases hk : g.post = k
    · right
      rcases tight k gs (fun x hx => h x (List.mem_cons_of_mem _ hx)) with h1 | ⟨g1, h1, h2, h3⟩
      · refine ⟨g, List.mem_cons_self, hk, fun x hx hxk t ht => ?_⟩
        rcases List.mem_cons.mp hx with rfl | hx
        · exact ht
        · exact absurd hxk (h1 x hx)
      · by_cases c : ∀ t, g1.half p t → g.half p t
        · refine ⟨g1, List.mem_cons_of_mem _ h1, h2, fun x hx hxk t ht => ?_⟩
          rcases List.mem_cons.mp hx with rfl | hx
          · exact c t ht
          · exact h3 x hx hxk t ht
        · have c2 : ∀ t, g.half p t → g1.half p t := by
            have ⟨s, hs⟩ := Classical.not_forall.mp c
            have hs1 : g1.half p s ∧ ¬ g.half p s := by
              constructor
              · exact Classical.byContradiction fun z => hs fun q => absurd q z
              · exact fun z => hs fun _ => z
            intro t ht
            have o1 := h g1 (List.mem_cons_of_mem _ h1)
            have o := h g List.mem_cons_self
            rcases Std.le_total (a := s) (b := t) with z | z
            · cases k with
              | true => exact (half_up o1.x0 o1.lt z).1 h2 hs1.1
              | false => exact absurd ((half_up o.x0 o.lt z).2 hk ht) hs1.2
            · cases k with
              | true => exact absurd ((half_up o.x0 o.lt z).1 hk ht) hs1.2
              | false => exact (half_up o1.x0 o1.lt z).2 h2 hs1.1
          refine ⟨g, List.mem_cons_self, hk, fun x hx hxk t ht => ?_⟩
          rcases List.mem_cons.mp hx with rfl | hx
          · exact ht
          · exact h3 x hx hxk t (c2 t ht)
    · rcases tight k gs (fun x hx => h x (List.mem_cons_of_mem _ hx)) with h1 | ⟨g1, h1, h2, h3⟩
      · left
        intro x hx
        rcases List.mem_cons.mp hx with rfl | hx
        · exact hk
        · exact h1 x hx
      · right
        refine ⟨g1, List.mem_cons_of_mem _ h1, h2, fun x hx hxk t ht => ?_⟩
        rcases List.mem_cons.mp hx with rfl | hx
        · exact absurd hxk hk
        · exact h3 x hx hxk t ht
/-- these guards keep the jet off -/
def Off (hd : Rat) (as : List Ask) (p : Pl) (gs : List Gd) : Prop := ∀ t, ¬ Wt hd as p gs t
theorem Off.mono {hd : Rat} {as : List Ask} {p : Pl} {gs hs : List Gd} (h : Off hd as p gs) (hg : ∀ g ∈ gs, g ∈ hs) : Off hd as p hs := fun t z => by
  obtain ⟨z1, z2⟩ := (Wt_iff t).mp z
  exact h t ((Wt_iff t).mpr ⟨z1, fun g h => z2 g (hg g h)⟩)
/-- [34] on a line: if all do, one or two of them do, or none is needed -/
theorem helly {hd : Rat} {as : List Ask} {p : Pl} {gs : List Gd} (hok : ∀ g ∈ gs, GdOk p g) (h : Off hd as p gs) : Off hd as p [] ∨ (∃ g ∈ gs, Off hd as p [g]) ∨ ∃ g ∈ gs, ∃ g' ∈ gs, g.post ≠ g'.post ∧ Off hd as p [g, g'] := by
  rcases tight (p := p) true gs hok with h1 | ⟨g1, h1, h2, h3⟩
  · rcases tight (p := p) false gs hok with k1 | ⟨g2, k1, k2, k3⟩
    · left
      intro t z
      refine h t ((Wt_iff t).mpr ⟨z, fun g hg => ?_⟩)
      cases hp : g.post with
      | true => exact absurd hp (h1 g hg)
      | false => exact absurd hp (k1 g hg)
    · right; left
      refine ⟨g2, k1, fun t z => ?_⟩
      obtain ⟨z1, z2⟩ := (Wt_iff t).mp z
      refine h t ((Wt_iff t).mpr ⟨z1, fun g hg => ?_⟩)
      cases hp : g.post with
      | true => exact absurd hp (h1 g hg)
      | false => exact k3 g hg hp t (z2 g2 List.mem_cons_self)
  · rcases tight (p := p) false gs hok with k1 | ⟨g2, k1, k2, k3⟩
    · right; left
      refine ⟨g1, h1, fun t z => ?_⟩
      obtain ⟨z1, z2⟩ := (Wt_iff t).mp z
      refine h t ((Wt_iff t).mpr ⟨z1, fun g hg => ?_⟩)
      cases hp : g.post with
      | true => exact h3 g hg hp t (z2 g1 List.mem_cons_self)
      | false => exact absurd hp (k1 g hg)
    · right; right
      refine ⟨g1, h1, g2, k1, by rw [h2, k2]; decide, fun t z => ?_⟩
      obtain ⟨z1, z2⟩ := (Wt_iff t).mp z
      refine h t ((Wt_iff t).mpr ⟨z1, fun g hg => ?_⟩)
      cases hp : g.post with
      | true => exact h3 g hg hp t (z2 g1 List.mem_cons_self)
      | false => exact k3 g hg hp t (z2 g2 (List.mem_cons_of_mem _ List.mem_cons_self))
end
end Sp
/-! GU 2: guards_hold and _law_guarded; the fewest. -/
namespace Sp
noncomputable section
def encG (g : Gd) : A := .tup [.str (if g.post then "post" else "curtain"), encPl g.a]
structure WdOk (hd : Rat) (as : List Ask) (p : Pl) (gs : List Gd) : Prop where
  h0 : 0 < hd
  hs : Sz 100 hd
  oka : ∀ a ∈ as, AskOk a
  n : as.length ≤ 7
  okp : PlOk p
  okg : ∀ g ∈ gs, PlOk g.a ∧ g.a.x < p.x
  m : gs.length ≤ 7
theorem WdOk.sub {hd : Rat} {as : List Ask} {p : Pl} {gs hs : List Gd} (h : WdOk hd as p gs) (g : ∀ x ∈ hs, x ∈ gs) (hn : hs.length ≤ 7) : WdOk hd as p hs := ⟨h.h0, h.hs, h.oka, h.n, h.okp, fun x hx => h.okg x (g x hx), hn⟩
theorem WdOk.gd {hd : Rat} {as : List Ask} {p : Pl} {gs : List Gd} (h : WdOk hd as p gs) : ∀ g ∈ gs, GdOk p g := fun g hg => ⟨(h.okg g hg).1.xp, (h.okg g hg).2⟩
theorem WdOk.all {hd : Rat} {as : List Ask} {p : Pl} {gs : List Gd} (h : WdOk hd as p gs) : ∀ a ∈ as ++ [Ask.over p, .under p] ++ gs.map Gd.ask, AskOk a := fun a ha => by
  rcases List.mem_append.mp ha with ha | ha
  · rcases List.mem_append.mp ha with ha | ha
    · exact h.oka a ha
    · rcases List.mem_cons.mp ha with rfl | ha
      · exact h.okp
      · rw [List.mem_singleton.mp ha]
        exact h.okp
  · obtain ⟨⟨post, b⟩, hg, rfl⟩ := List.mem_map.mp ha
    cases post <;> exact (h.okg _ hg).1
theorem filter_tt {α : Type} (xs : List α) : xs.filter (fun _ => true) = xs := List.filter_eq_self.mpr fun _ _ => rfl
theorem xCall2 {f : GF} {ga gb : GE} {ss : SS} {w : W} {a b : A} {r : Option (A × W)} (h1 : ga ss w = some (a, w)) (h2 : gb ss w = some (b, w)) (h3 : f [a, b] w = r) : xCall f (xConsA ga (xConsA gb xNilA)) ss w = r := by
  unfold xCall xConsA xNilA
  rw [h1]
  dsimp only [Option.bind_some]
  rw [h2]
  exact h3
/-- do they keep the jet off -/
def hold (hd : Rat) (as : List Ask) (p : Pl) (gs : List Gd) : Bool := sure (Off hd as p gs)
theorem fIsN_span {n : Nat} {a : A} {S : R → Prop} (h : IsSpan n a S) : fIsN a = some (.bl (sure (∀ t, ¬ S t))) := by
  rcases id h with ⟨rfl, h1⟩ | ⟨lo, hi, l, k, rfl, h1, h2, h3, h4⟩
  · rw [sure_iff.mpr h1]
    rfl
  · have : sure (∀ t, ¬ S t) = false := by
      refine Bool.eq_false_iff.mpr fun z => ?_
      have := h.none_iff.mpr (sure_iff.mp z)
      cases this
    rw [this]
    rfl
theorem fIsN_lspan {n : Nat} {a : A} {S : R → Prop} (h : LSpan n a S) : fIsN a = some (.bl (sure (∀ t, ¬ S t))) := by
  rcases id h with ⟨rfl, h1⟩ | ⟨lo, hi, l, k, rfl, h1, h2, h3, h4⟩
  · rw [sure_iff.mpr h1]
    rfl
  · have : sure (∀ t, ¬ S t) = false := by
      refine Bool.eq_false_iff.mpr fun z => ?_
      have := h.none_iff.mpr (sure_iff.mp z)
      cases this
    rw [this]
    rfl
theorem sure_congr {p q : Prop} (h : p ↔ q) : sure p = sure q := by
  rw [propext h]
theorem G_with_place_eq (as : List Ask) (p : Pl) (hn : as.length ≤ 100) (w : W) : G_with_place [.tup (as.map encAsk), encPl p] w = some (.tup ((as ++ [Ask.over p, .under p]).map encAsk), w) := by
  have e : (as.map encAsk).length + 2 ≤ 10000 := by rw [List.length_map]; omega
  have e2 : as.length + 2 ≤ 10000 := by omega
  simp [G_with_place, B_with_place, e2, encAsk]
theorem G_hold_eq {hd : Rat} {as : List Ask} {p : Pl} {gs : List Gd} (h : WdOk hd as p gs) {w : W} (hw : A.plain w = true) : G_guards_hold [enc hd, .tup (as.map encAsk), encPl p, .tup (gs.map encG)] w = some (.bl (hold hd as p gs), w) := by
  have hn := h.n
  have hm := h.m
  have lc := lc_map (g := xTupG (xConsG (xName 5) (xConsG (xName 6) (xNilG)))) (gt := xYes) (ge := xTup (xConsA (xUn fPassed (xVar 5)) (xConsA (xVar 6) (xNilA)))) (s0 := [some (enc hd), some (.tup (as.map encAsk)), some (encPl p), some (.tup (gs.map encG)), none, none, none]) (w := w)
    encG (fun g => [some (enc hd), some (.tup (as.map encAsk)), some (encPl p), some (.tup (gs.map encG)), none, some (.str (if g.post then "post" else "curtain")), some (encPl g.a)]) (fun _ => true) (fun g => encAsk g.ask) gs (fun g hg => ⟨rfl, rfl, fun _ => by
      obtain ⟨post, a⟩ := g
      cases post <;> simp [fPassed, Gd.ask, encAsk]⟩)
  have lc2 : xLc (yTup (xVar 3)) (xTupG (xConsG (xName 5) (xConsG (xName 6) (xNilG)))) (xYes) (xTup (xConsA (xUn fPassed (xVar 5)) (xConsA (xVar 6) (xNilA)))) [5, 6] [some (enc hd), some (.tup (as.map encAsk)), some (encPl p), some (.tup (gs.map encG)), none, none, none] w = some (.lst ((gs.map Gd.ask).map encAsk), w) := by
    refine xLc_eq (xs := gs.map encG) rfl (by rw [List.length_map]; omega) (lc.trans ?_)
    rw [filter_tt, List.map_map]
    rfl
  obtain ⟨c, e1, e2⟩ := G_slopes_eq h.h0 h.hs h.all (by simp only [List.length_append, List.length_map, List.length_cons, List.length_nil]; omega) hw
  have e3 : G_slopes_of [enc hd, .tup ((as ++ [Ask.over p, .under p]).map encAsk ++ (gs.map Gd.ask).map encAsk)] w = some (c, w) := by
    rw [← List.map_append]
    exact e1
  have e4 := G_with_place_eq as p (by omega) w
  have e5 := fIsN_span e2
  have sz : ((as ++ [Ask.over p, .under p]).map encAsk ++ (gs.map Gd.ask).map encAsk).length ≤ 10000 := by
    simp only [List.length_append, List.length_map, List.length_cons, List.length_nil]
    omega
  unfold G_guards_hold
  refine (xDef_eq (n := 4) (as := [_, _, _, _]) rfl).trans ?_
  show xDef.xRun (B_guards_hold [some (enc hd), some (.tup (as.map encAsk)), some (encPl p), some (.tup (gs.map encG)), none, none, none] w) = _
  unfold B_guards_hold
  rw [xSeq_eq (xAsg_eq lc2)]
  have st : xTup (xStarA (xCall G_with_place (xConsA (xVar 1) (xConsA (xVar 2) (xNilA)))) (xStarA (xVar 4) (xNilA))) [some (enc hd), some (.tup (as.map encAsk)), some (encPl p), some (.tup (gs.map encG)), some (.lst ((gs.map Gd.ask).map encAsk)), none, none] w = some (.tup ((as ++ [Ask.over p, .under p]).map encAsk ++ (gs.map Gd.ask).map encAsk), w) := by
    unfold xTup xStarA
    have k1 : xCall G_with_place (xConsA (xVar 1) (xConsA (xVar 2) (xNilA))) [some (enc hd), some (.tup (as.map encAsk)), some (encPl p), some (.tup (gs.map encG)), some (.lst ((gs.map Gd.ask).map encAsk)), none, none] w = some (.tup ((as ++ [Ask.over p, .under p]).map encAsk), w) := e4
    rw [k1]
    dsimp only [Option.bind_some]
    show ((some ((as ++ [Ask.over p, .under p]).map encAsk ++ ((gs.map Gd.ask).map encAsk ++ []), w)).bind _) = _
    dsimp only [Option.bind_some]
    rw [List.append_nil, if_pos (show small _ = true from decide_eq_true sz)]
  show xDef.xRun ((xUn fIsN (xCall G_slopes_of (xConsA (xVar 0) (xConsA (xTup (xStarA (xCall G_with_place (xConsA (xVar 1) (xConsA (xVar 2) (xNilA)))) (xStarA (xVar 4) (xNilA)))) (xNilA)))) [some (enc hd), some (.tup (as.map encAsk)), some (encPl p), some (.tup (gs.map encG)), some (.lst ((gs.map Gd.ask).map encAsk)), none, none] w).map fun p => Out.rt p.1 p.2) = _
  have k2 : xCall G_slopes_of (xConsA (xVar 0) (xConsA (xTup (xStarA (xCall G_with_place (xConsA (xVar 1) (xConsA (xVar 2) (xNilA)))) (xStarA (xVar 4) (xNilA)))) (xNilA))) [some (enc hd), some (.tup (as.map encAsk)), some (encPl p), some (.tup (gs.map encG)), some (.lst ((gs.map Gd.ask).map encAsk)), none, none] w = some (c, w) := by
    exact xCall2 rfl st e3
  unfold xUn
  rw [k2]
  dsimp only [Option.bind_some]
  rw [e5]
  rfl
/-! ### the law's side -/
theorem G__law_wet_eq {hd : Rat} {bs : List Ask} {p : Pl} (h0 : 0 < hd) (hs : Sz 100 hd) (hb : ∀ a ∈ bs, AskOk a) (hp : PlOk p) (hn : bs.length ≤ 80) {w : W} (hw : A.plain w = true) : ∃ c, G__law_wet [enc hd, .tup (bs.map encAsk), encPl p] w = some (c, w) ∧ LSpan 8886 c (Sem hd (bs ++ [.over p, .under p])) := by
  have lc := lc_map (g := xName 4) (gt := xYes) (ge := xTup (xConsA (xVar 4) (xConsA (xC (.bl false)) (xNilA)))) (s0 := [some (enc hd), some (.tup (bs.map encAsk)), some (encPl p), none, none]) (w := w)
    encAsk (fun a => [some (enc hd), some (.tup (bs.map encAsk)), some (encPl p), none, some (encAsk a)]) (fun _ => true) encE bs (fun a ha => ⟨rfl, rfl, fun _ => rfl⟩)
  have lc2 : xLc (yTup (xVar 1)) (xName 4) (xYes) (xTup (xConsA (xVar 4) (xConsA (xC (.bl false)) (xNilA)))) [4] [some (enc hd), some (.tup (bs.map encAsk)), some (encPl p), none, none] w = some (.lst (bs.map encE), w) := by
    refine xLc_eq (xs := bs.map encAsk) rfl (by rw [List.length_map]; omega) (lc.trans ?_)
    rw [filter_tt]
  have hall : ∀ a ∈ bs ++ [Ask.over p, .under p], AskOk a := fun a ha => by
    rcases List.mem_append.mp ha with ha | ha
    · exact hb a ha
    · rcases List.mem_cons.mp ha with rfl | ha
      · exact hp
      · rw [List.mem_singleton.mp ha]
        exact hp
  obtain ⟨c, e1, e2⟩ := G__law_slopes_eq h0 hs hall (by simp only [List.length_append, List.length_cons, List.length_nil]; omega) hw
  refine ⟨c, ?_, e2⟩
  unfold G__law_wet
  refine (xDef_eq (n := 3) (as := [_, _, _]) rfl).trans ?_
  show xDef.xRun (B__law_wet [some (enc hd), some (.tup (bs.map encAsk)), some (encPl p), none, none] w) = _
  unfold B__law_wet
  rw [xSeq_eq (xAsg_eq lc2)]
  have sz : (bs.map encE).length + 2 ≤ 10000 := by rw [List.length_map]; omega
  have k : xCall G__law_slopes (xConsA (xVar 0) (xConsA (xOp fAdd (xVar 3) (xLst (xConsA (xTup (xConsA (xTup (xConsA (xC (.str "over")) (xConsA (xVar 2) (xNilA)))) (xConsA (xC (.bl false)) (xNilA)))) (xConsA (xTup (xConsA (xTup (xConsA (xC (.str "under")) (xConsA (xVar 2) (xNilA)))) (xConsA (xC (.bl false)) (xNilA)))) (xNilA))))) (xNilA))) [some (enc hd), some (.tup (bs.map encAsk)), some (encPl p), some (.lst (bs.map encE)), none] w = some (c, w) := by
    have a1 : xOp fAdd (xVar 3) (xLst (xConsA (xTup (xConsA (xTup (xConsA (xC (.str "over")) (xConsA (xVar 2) (xNilA)))) (xConsA (xC (.bl false)) (xNilA)))) (xConsA (xTup (xConsA (xTup (xConsA (xC (.str "under")) (xConsA (xVar 2) (xNilA)))) (xConsA (xC (.bl false)) (xNilA)))) (xNilA)))) [some (enc hd), some (.tup (bs.map encAsk)), some (encPl p), some (.lst (bs.map encE)), none] w = some (.lst ((bs ++ [Ask.over p, .under p]).map encE), w) := by
      unfold xOp
      show ((fAdd (.lst (bs.map encE)) (.lst [encE (.over p), encE (.under p)])).map fun z => (z, w)) = _
      have : fAdd (.lst (bs.map encE)) (.lst [encE (.over p), encE (.under p)]) = some (.lst ((bs ++ [Ask.over p, .under p]).map encE)) := by
        show (if small ((bs.map encE).length + 2) then some (A.lst (bs.map encE ++ [encE (.over p), encE (.under p)])) else none) = _
        rw [if_pos (show small _ = true from decide_eq_true sz), List.map_append]
        rfl
      rw [this]
      rfl
    exact xCall2 rfl a1 e1
  show xDef.xRun (xRet _ [some (enc hd), some (.tup (bs.map encAsk)), some (encPl p), some (.lst (bs.map encE)), none] w) = _
  unfold xRet
  rw [k]
  rfl
theorem G__law_gasks_eq (gs : List Gd) (hn : gs.length ≤ 100) (w : W) : G__law_guard_asks [.tup (gs.map encG)] w = some (.lst ((gs.map Gd.ask).map encAsk), w) := by
  have lc := lc_map (g := xTupG (xConsG (xName 1) (xConsG (xName 2) (xNilG)))) (gt := xYes) (ge := xIf (xT (xOp fEq (xVar 1) (xC (.str "post")))) (xTup (xConsA (xC (.str "over")) (xConsA (xVar 2) (xNilA)))) (xTup (xConsA (xC (.str "under")) (xConsA (xVar 2) (xNilA))))) (s0 := [some (.tup (gs.map encG)), none, none]) (w := w)
    encG (fun g => [some (.tup (gs.map encG)), some (.str (if g.post then "post" else "curtain")), some (encPl g.a)]) (fun _ => true) (fun g => encAsk g.ask) gs (fun g hg => ⟨rfl, rfl, fun _ => by
      obtain ⟨post, a⟩ := g
      cases post <;> simp [Gd.ask, encAsk, words]⟩)
  have lc2 : xLc (yTup (xVar 0)) (xTupG (xConsG (xName 1) (xConsG (xName 2) (xNilG)))) (xYes) (xIf (xT (xOp fEq (xVar 1) (xC (.str "post")))) (xTup (xConsA (xC (.str "over")) (xConsA (xVar 2) (xNilA)))) (xTup (xConsA (xC (.str "under")) (xConsA (xVar 2) (xNilA))))) [1, 2] [some (.tup (gs.map encG)), none, none] w = some (.lst ((gs.map Gd.ask).map encAsk), w) := by
    refine xLc_eq (xs := gs.map encG) rfl (by rw [List.length_map]; omega) (lc.trans ?_)
    rw [filter_tt, List.map_map]
    rfl
  unfold G__law_guard_asks
  refine (xDef_eq (n := 1) (as := [_]) rfl).trans ?_
  show xDef.xRun (xRet _ [some (.tup (gs.map encG)), none, none] w) = _
  unfold xRet
  rw [lc2]
  rfl
theorem G__law_guarded_eq {hd : Rat} {as : List Ask} {p : Pl} {gs : List Gd} (h : WdOk hd as p gs) {w : W} (hw : A.plain w = true) : G__law_guarded [enc hd, .tup (as.map encAsk), encPl p, .tup (gs.map encG)] w = some (.bl (hold hd as p gs), w) := by
  have hn := h.n
  have hm := h.m
  have hb : ∀ a ∈ as ++ gs.map Gd.ask, AskOk a := fun a ha => h.all a (by
    rcases List.mem_append.mp ha with ha | ha
    · exact List.mem_append_left _ (List.mem_append_left _ ha)
    · exact List.mem_append_right _ ha)
  obtain ⟨c, e1, e2⟩ := G__law_wet_eq h.h0 h.hs hb h.okp (by simp only [List.length_append, List.length_map]; omega) hw
  have e3 := fIsN_lspan e2
  have eq : sure (∀ t, ¬ Sem hd (as ++ gs.map Gd.ask ++ [.over p, .under p]) t) = hold hd as p gs := sure_congr (by
    unfold Off Wt
    constructor <;> intro z t q <;> refine z t ((Sem.perm (fun a => ?_) t).mp q) <;> simp only [List.mem_append] <;> constructor <;> intro k <;> grind)
  rw [eq] at e3
  have ga := G__law_gasks_eq gs (by omega) w
  have sz : (as.map encAsk).length + ((gs.map Gd.ask).map encAsk).length ≤ 10000 := by simp only [List.length_map]; omega
  rw [List.map_append] at e1
  have ad : fAdd (.tup (as.map encAsk)) (.tup ((gs.map Gd.ask).map encAsk)) = some (.tup (as.map encAsk ++ (gs.map Gd.ask).map encAsk)) := by
    show (if small ((as.map encAsk).length + ((gs.map Gd.ask).map encAsk).length) then some (A.tup (as.map encAsk ++ (gs.map Gd.ask).map encAsk)) else none) = _
    rw [if_pos (show small _ = true from decide_eq_true sz)]
  simp [G__law_guarded, B__law_guarded, ga, -fAdd, ad, e1, -fIsN, e3, -List.map_map]
end
end Sp
/-! GU 3: the fewest, on both sides. -/
namespace Sp
noncomputable section
instance : Inhabited Gd := ⟨⟨true, ⟨0, 0, 0, 0, 0⟩⟩⟩
/-- a loop that looks for the first -/
theorem for_find {α : Type} {g : GG} {gb : GS} {w : W} (en : α → A) (v : α → Option A) (I : SS → Prop) : ∀ (xs : List α), (∀ x ∈ xs, ∀ ss, I ss → ∃ ss1, g (en x) ss = some ss1 ∧ ((∃ a, v x = some a ∧ gb ss1 w = some (.rt a w)) ∨ (v x = none ∧ ∃ ss2, I ss2 ∧ gb ss1 w = some (.nx ss2 w)))) →
    ∀ ss, I ss → (∃ a, xs.findSome? v = some a ∧ forLoop g gb (xs.map en) ss w = some (.rt a w)) ∨ (xs.findSome? v = none ∧ ∃ ss2, I ss2 ∧ forLoop g gb (xs.map en) ss w = some (.nx ss2 w))
  | [], _, ss, i => .inr ⟨rfl, ss, i, by simp⟩
  | x :: xs, h, ss, i => by
    obtain ⟨ss1, h1, h2⟩ := h x List.mem_cons_self ss i
    rcases h2 with ⟨a, h3, h4⟩ | ⟨h3, ss2, i2, h4⟩
    · refine .inl ⟨a, by rw [List.findSome?_cons, h3], ?_⟩
      rw [List.map_cons]
      conv => lhs; unfold forLoop
      rw [h1]
      dsimp only [Option.bind_some]
      rw [h4]
      rfl
    · have run : forLoop g gb ((x :: xs).map en) ss w = forLoop g gb (xs.map en) ss2 w := by
        rw [List.map_cons]
        conv => lhs; unfold forLoop
        rw [h1]
        dsimp only [Option.bind_some]
        rw [h4]
        rfl
      rw [run, List.findSome?_cons, h3]
      exact for_find en v I xs (fun y hy => h y (List.mem_cons_of_mem _ hy)) ss2 i2
def gat (gs : List Gd) (i : Nat) : Gd := gs.getD i ⟨true, ⟨0, 0, 0, 0, 0⟩⟩
theorem gat_eq {gs : List Gd} {i : Nat} (h : i < gs.length) : gat gs i = gs[i] := by
  unfold gat
  simp [h]
def oneV (H : List Gd → Bool) (gs : List Gd) (i : Nat) : Option A := if H [gat gs i] then some (.tup [.int i]) else none
def twoV (H : List Gd → Bool) (gs : List Gd) (i j : Nat) : Option A := if H [gat gs i, gat gs j] then some (.tup [.int i, .int j]) else none
def laterOf (n i : Nat) : List Nat := List.range' (i + 1) (n - (i + 1))
def few (H : List Gd → Bool) (gs : List Gd) : A :=
  if H [] then .tup [] else
    match (List.range gs.length).findSome? (oneV H gs) with
    | some a => a
    | none => match (List.range gs.length).findSome? fun i => (laterOf gs.length i).findSome? (twoV H gs i) with
      | some a => a
      | none => .non
theorem nums0 (n : Nat) : nums 0 n = (List.range n).map fun i => A.int (i : Nat) := by
  unfold nums
  refine List.map_congr_left fun i _ => ?_
  rw [Int.zero_add]
theorem nums1 (n i : Nat) : nums ((i : Int) + 1) (n - (i + 1)) = (laterOf n i).map fun j => A.int (j : Nat) := by
  unfold nums laterOf
  rw [List.range'_eq_map_range, List.map_map]
  refine List.map_congr_left fun k _ => ?_
  show A.int ((i : Int) + 1 + (k : Nat)) = A.int ((i + 1 + k : Nat) : Int)
  congr 1
theorem pairs_gs (gs : List Gd) : pairs (nums 0 gs.length) (gs.map encG) = (List.range gs.length).map fun i => .tup [.int i, encG (gat gs i)] := by
  unfold pairs
  rw [nums0]
  refine List.ext_getElem ?_ fun i h1 h2 => ?_
  · simp
  · simp only [List.length_map, List.length_zip, List.length_range] at h1
    have hi : i < gs.length := by omega
    simp [gat_eq hi]
theorem ix_gs {gs : List Gd} {i : Nat} (h : i < gs.length) : fIx (.tup (gs.map encG)) (.int i) = some (encG (gat gs i)) := by
  have e : (gs.map encG)[i]? = some (encG (gat gs i)) := by
    rw [List.getElem?_map, List.getElem?_eq_getElem h, gat_eq h]
    rfl
  show A.ix (gs.map encG) (i : Int) = _
  unfold A.ix
  rw [if_pos (by omega), Int.toNat_natCast, e]
theorem mem_get {gs : List Gd} {i : Nat} (h : i < gs.length) : gat gs i ∈ gs := by
  rw [gat_eq h]
  exact List.getElem_mem h
theorem later_lt {n i j : Nat} (h : j ∈ laterOf n i) : i < j ∧ j < n := by
  unfold laterOf at h
  rw [List.mem_range'_1] at h
  omega
section
variable {hd : Rat} {as : List Ask} {p : Pl} {gs : List Gd}
theorem hold1 (h : WdOk hd as p gs) {w : W} (hw : A.plain w = true) {i : Nat} (hi : i < gs.length) : G_guards_hold [enc hd, .tup (as.map encAsk), encPl p, .tup [encG (gat gs i)]] w = some (.bl (hold hd as p [gat gs i]), w) :=
  G_hold_eq (gs := [gat gs i]) (h.sub (fun x hx => by rw [List.mem_singleton.mp hx]; exact mem_get hi) (by simp)) hw
theorem hold2 (h : WdOk hd as p gs) {w : W} (hw : A.plain w = true) {i j : Nat} (hi : i < gs.length) (hj : j < gs.length) : G_guards_hold [enc hd, .tup (as.map encAsk), encPl p, .tup [encG (gat gs i), encG (gat gs j)]] w = some (.bl (hold hd as p [gat gs i, gat gs j]), w) :=
  G_hold_eq (gs := [gat gs i, gat gs j]) (h.sub (fun x hx => by
    rcases List.mem_cons.mp hx with rfl | hx
    · exact mem_get hi
    · rw [List.mem_singleton.mp hx]
      exact mem_get hj) (by simp)) hw
def fwI (hd : Rat) (as : List Ask) (p : Pl) (gs : List Gd) (ss : SS) : Prop := ∃ s4 s5 s6, ss = [some (enc hd), some (.tup (as.map encAsk)), some (encPl p), some (.tup (gs.map encG)), s4, s5, s6]
def fwJ (hd : Rat) (as : List Ask) (p : Pl) (gs : List Gd) (i : Nat) (ss : SS) : Prop := ∃ s5 s6, ss = [some (enc hd), some (.tup (as.map encAsk)), some (encPl p), some (.tup (gs.map encG)), some (.int i), s5, s6]
def fw1 : GS := xIfS (xT (xCall G_guards_hold (xConsA (xVar 0) (xConsA (xVar 1) (xConsA (xVar 2) (xConsA (xTup (xConsA (xVar 5) (xNilA))) (xNilA))))))) (xRet (xTup (xConsA (xVar 4) (xNilA)))) (xNext)
def fw2 : GS := xIfS (xT (xCall G_guards_hold (xConsA (xVar 0) (xConsA (xVar 1) (xConsA (xVar 2) (xConsA (xTup (xConsA (xOp fIx (xVar 3) (xVar 4)) (xConsA (xOp fIx (xVar 3) (xVar 6)) (xNilA)))) (xNilA))))))) (xRet (xTup (xConsA (xVar 4) (xConsA (xVar 6) (xNilA))))) (xNext)
def fw3 : GS := xFor (yRng2 (xOp fAdd (xVar 4) (xC (.int 1))) (xBlt bLen (xConsA (xVar 3) (xNilA)))) (xName 6) fw2
theorem few_one (h : WdOk hd as p gs) {w : W} (hw : A.plain w = true) : ∀ i ∈ List.range gs.length, ∀ ss, fwI hd as p gs ss → ∃ ss1, (xTupG (xConsG (xName 4) (xConsG (xName 5) (xNilG)))) (.tup [.int i, encG (gat gs i)]) ss = some ss1 ∧ ((∃ a, oneV (hold hd as p) gs i = some a ∧ fw1 ss1 w = some (.rt a w)) ∨ (oneV (hold hd as p) gs i = none ∧ ∃ ss2, fwI hd as p gs ss2 ∧ fw1 ss1 w = some (.nx ss2 w))) := by
  rintro i hi ss ⟨s4, s5, s6, rfl⟩
  have e := hold1 h hw (List.mem_range.mp hi)
  refine ⟨_, rfl, ?_⟩
  unfold oneV
  by_cases c : hold hd as p [gat gs i] = true
  · rw [c] at e
    exact .inl ⟨_, if_pos c, by simp [fw1, e]⟩
  · have c' : hold hd as p [gat gs i] = false := by simpa using c
    rw [c'] at e
    exact .inr ⟨if_neg c, _, ⟨some (.int i), some (encG (gat gs i)), s6, rfl⟩, by simp [fw1, e]⟩
theorem few_two (h : WdOk hd as p gs) {w : W} (hw : A.plain w = true) {i : Nat} (hi : i < gs.length) : ∀ j ∈ laterOf gs.length i, ∀ ss, fwJ hd as p gs i ss → ∃ ss1, (xName 6) (.int (j : Nat)) ss = some ss1 ∧ ((∃ a, twoV (hold hd as p) gs i j = some a ∧ fw2 ss1 w = some (.rt a w)) ∨ (twoV (hold hd as p) gs i j = none ∧ ∃ ss2, fwJ hd as p gs i ss2 ∧ fw2 ss1 w = some (.nx ss2 w))) := by
  rintro j hj ss ⟨s5, s6, rfl⟩
  have hj2 := (later_lt hj).2
  have e := hold2 h hw hi hj2
  have x1 := ix_gs hi
  have x2 := ix_gs hj2
  refine ⟨_, rfl, ?_⟩
  unfold twoV
  by_cases c : hold hd as p [gat gs i, gat gs j] = true
  · rw [c] at e
    exact .inl ⟨_, if_pos c, by simp [fw2, -fIx, x1, x2, e]⟩
  · have c' : hold hd as p [gat gs i, gat gs j] = false := by simpa using c
    rw [c'] at e
    exact .inr ⟨if_neg c, _, ⟨s5, some (.int j), rfl⟩, by simp [fw2, -fIx, x1, x2, e]⟩
theorem few_in (h : WdOk hd as p gs) {w : W} (hw : A.plain w = true) : ∀ i ∈ List.range gs.length, ∀ ss, fwI hd as p gs ss → ∃ ss1, (xName 4) (.int (i : Nat)) ss = some ss1 ∧ ((∃ a, (laterOf gs.length i).findSome? (twoV (hold hd as p) gs i) = some a ∧ fw3 ss1 w = some (.rt a w)) ∨ ((laterOf gs.length i).findSome? (twoV (hold hd as p) gs i) = none ∧ ∃ ss2, fwI hd as p gs ss2 ∧ fw3 ss1 w = some (.nx ss2 w))) := by
  rintro i hi ss ⟨s4, s5, s6, rfl⟩
  have hi2 := List.mem_range.mp hi
  have hm := h.m
  refine ⟨[some (enc hd), some (.tup (as.map encAsk)), some (encPl p), some (.tup (gs.map encG)), some (.int i), s5, s6], rfl, ?_⟩
  have r1 : rngOk ((i : Int) + 1) = true := sure_iff.mpr (by omega)
  have r2 : rngOk (gs.length : Int) = true := sure_iff.mpr (by omega)
  have t : ((gs.length : Int) - ((i : Int) + 1)).toNat = gs.length - (i + 1) := by omega
  have it : ∀ out, forLoop (xName 6) fw2 ((laterOf gs.length i).map fun j => A.int (j : Nat)) [some (enc hd), some (.tup (as.map encAsk)), some (encPl p), some (.tup (gs.map encG)), some (.int i), s5, s6] w = some out → fw3 [some (enc hd), some (.tup (as.map encAsk)), some (encPl p), some (.tup (gs.map encG)), some (.int i), s5, s6] w = some out := fun out ho => by
    rw [← nums1] at ho
    simp [fw3, yRng2, r1, r2, t, -forLoop, ho]
  rcases for_find (g := xName 6) (gb := fw2) (w := w) (fun j : Nat => A.int (j : Nat)) (twoV (hold hd as p) gs i) (fwJ hd as p gs i) (laterOf gs.length i) (few_two h hw hi2) _ ⟨s5, s6, rfl⟩ with ⟨a, f1, f2⟩ | ⟨f1, ss2, ⟨y5, y6, rfl⟩, f2⟩
  · exact .inl ⟨a, f1, it _ f2⟩
  · exact .inr ⟨f1, _, ⟨_, _, _, rfl⟩, it _ f2⟩
theorem G_fewest_eq (h : WdOk hd as p gs) {w : W} (hw : A.plain w = true) (hc : G_check_guarded [enc hd, .tup (as.map encAsk), encPl p, .tup (gs.map encG)] w = some (.non, w)) : G_fewest_guards [enc hd, .tup (as.map encAsk), encPl p, .tup (gs.map encG)] w = some (few (hold hd as p) gs, w) := by
  have hm := h.m
  have e0 : G_guards_hold [enc hd, .tup (as.map encAsk), encPl p, .tup []] w = some (.bl (hold hd as p []), w) := G_hold_eq (gs := []) (h.sub (fun x hx => nomatch hx) (by simp)) hw
  have r2 : rngOk (gs.length : Int) = true := sure_iff.mpr (by omega)
  unfold G_fewest_guards
  refine (xDef_eq (n := 4) (as := [_, _, _, _]) rfl).trans ?_
  show xDef.xRun (B_fewest_guards [some (enc hd), some (.tup (as.map encAsk)), some (encPl p), some (.tup (gs.map encG)), none, none, none] w) = _
  have d1 : xDrop (xCall G_check_guarded (xConsA (xVar 0) (xConsA (xVar 1) (xConsA (xVar 2) (xConsA (xVar 3) (xNilA)))))) [some (enc hd), some (.tup (as.map encAsk)), some (encPl p), some (.tup (gs.map encG)), none, none, none] w = some (.nx [some (enc hd), some (.tup (as.map encAsk)), some (encPl p), some (.tup (gs.map encG)), none, none, none] w) := by simp [hc]
  unfold B_fewest_guards
  rw [xSeq_eq d1]
  unfold few
  by_cases c : hold hd as p [] = true
  · rw [c] at e0
    rw [if_pos c]
    simp [-xFor, e0]
  · have c' : hold hd as p [] = false := by simpa using c
    rw [c'] at e0
    rw [if_neg c]
    have d2 : xIfS (xT (xCall G_guards_hold (xConsA (xVar 0) (xConsA (xVar 1) (xConsA (xVar 2) (xConsA (xTup (xNilA)) (xNilA))))))) (xRet (xTup (xNilA))) (xNext) [some (enc hd), some (.tup (as.map encAsk)), some (encPl p), some (.tup (gs.map encG)), none, none, none] w = some (.nx [some (enc hd), some (.tup (as.map encAsk)), some (encPl p), some (.tup (gs.map encG)), none, none, none] w) := by simp [e0]
    rw [xSeq_eq d2]
    have it : ∀ ss out, fwI hd as p gs ss → forLoop (xTupG (xConsG (xName 4) (xConsG (xName 5) (xNilG)))) fw1 ((List.range gs.length).map fun i : Nat => .tup [.int i, encG (gat gs i)]) ss w = some out → xFor (yEnum (xVar 3)) (xTupG (xConsG (xName 4) (xConsG (xName 5) (xNilG)))) fw1 ss w = some out := fun ss out ⟨s4, s5, s6, hs⟩ ho => by
      subst hs
      rw [← pairs_gs] at ho
      unfold xFor
      show forLoop _ _ (pairs (nums 0 (gs.map encG).length) (gs.map encG)) _ w = _
      rw [List.length_map]
      exact ho
    have it2 : ∀ ss out, fwI hd as p gs ss → forLoop (xName 4) fw3 ((List.range gs.length).map fun i => A.int (i : Nat)) ss w = some out → xFor (yRng1 (xBlt bLen (xConsA (xVar 3) (xNilA)))) (xName 4) fw3 ss w = some out := fun ss out ⟨s4, s5, s6, hs⟩ ho => by
      subst hs
      rw [← nums0] at ho
      simp [yRng1, r2, -forLoop, ho]
    show xDef.xRun (xSeq (xFor (yEnum (xVar 3)) (xTupG (xConsG (xName 4) (xConsG (xName 5) (xNilG)))) fw1) (xSeq (xFor (yRng1 (xBlt bLen (xConsA (xVar 3) (xNilA)))) (xName 4) fw3) (xRet (xC .non))) _ w) = _
    rcases for_find (w := w) (fun i : Nat => A.tup [.int i, encG (gat gs i)]) (oneV (hold hd as p) gs) (fwI hd as p gs) (List.range gs.length) (few_one h hw) _ ⟨none, none, none, rfl⟩ with ⟨a, f1, f2⟩ | ⟨f1, ss2, i2, f2⟩
    · unfold xSeq
      rw [it _ _ ⟨none, none, none, rfl⟩ f2, f1]
      rfl
    · rw [xSeq_eq (it _ _ ⟨none, none, none, rfl⟩ f2), f1]
      dsimp only
      rcases for_find (w := w) (fun i : Nat => A.int (i : Nat)) (fun i => (laterOf gs.length i).findSome? (twoV (hold hd as p) gs i)) (fwI hd as p gs) (List.range gs.length) (few_in h hw) ss2 i2 with ⟨a, k1, k2⟩ | ⟨k1, ss3, i3, k2⟩
      · unfold xSeq
        rw [it2 _ _ i2 k2, k1]
        rfl
      · rw [xSeq_eq (it2 _ _ i2 k2), k1]
        rfl
end
end
end Sp
/-! GU 4: the law's fewest; what is told of it. -/
namespace Sp
noncomputable section
theorem plc_some {n d i : Nat} (h : i ≤ n) : plc n d (some (i : Int)) = i := by
  show (if (i : Int) < 0 then ((i : Int) + (n : Int)).toNat else min (i : Int).toNat n) = i
  rw [if_neg (by omega), Int.toNat_natCast, Nat.min_eq_left h]
theorem cut_one {gs : List Gd} {i : Nat} (h : i < gs.length) : cut (gs.map encG) (some (i : Int)) (some ((i : Int) + 1)) = [encG (gat gs i)] := by
  have hl : (gs.map encG).length = gs.length := List.length_map _
  have e : ((i : Int) + 1) = ((i + 1 : Nat) : Int) := rfl
  unfold cut
  rw [e, hl, plc_some (by omega), plc_some (by omega), show i + 1 - i = 1 by omega, List.drop_eq_getElem_cons (by rw [hl]; exact h), List.take_succ_cons, List.take_zero, List.getElem_map, gat_eq h]
section
variable {hd : Rat} {as : List Ask} {p : Pl} {gs : List Gd}
theorem lhold1 (h : WdOk hd as p gs) {w : W} (hw : A.plain w = true) {i : Nat} (hi : i < gs.length) : G__law_guarded [enc hd, .tup (as.map encAsk), encPl p, .tup [encG (gat gs i)]] w = some (.bl (hold hd as p [gat gs i]), w) :=
  G__law_guarded_eq (gs := [gat gs i]) (h.sub (fun x hx => by rw [List.mem_singleton.mp hx]; exact mem_get hi) (by simp)) hw
theorem lhold2 (h : WdOk hd as p gs) {w : W} (hw : A.plain w = true) {i j : Nat} (hi : i < gs.length) (hj : j < gs.length) : G__law_guarded [enc hd, .tup (as.map encAsk), encPl p, .tup [encG (gat gs i), encG (gat gs j)]] w = some (.bl (hold hd as p [gat gs i, gat gs j]), w) :=
  G__law_guarded_eq (gs := [gat gs i, gat gs j]) (h.sub (fun x hx => by
    rcases List.mem_cons.mp hx with rfl | hx
    · exact mem_get hi
    · rw [List.mem_singleton.mp hx]
      exact mem_get hj) (by simp)) hw
def lw1 : GS := xIfS (xT (xCall G__law_guarded (xConsA (xVar 0) (xConsA (xVar 1) (xConsA (xVar 2) (xConsA (xSl (xVar 3) (xOSome (xVar 4)) (xOSome (xOp fAdd (xVar 4) (xC (.int 1))))) (xNilA))))))) (xRet (xTup (xConsA (xVar 4) (xNilA)))) (xNext)
def lwC : GE := xLc (yRng2 (xOp fAdd (xVar 4) (xC (.int 1))) (xBlt bLen (xConsA (xVar 3) (xNilA)))) (xName 6) (xT (xCall G__law_guarded (xConsA (xVar 0) (xConsA (xVar 1) (xConsA (xVar 2) (xConsA (xTup (xConsA (xOp fIx (xVar 3) (xVar 4)) (xConsA (xOp fIx (xVar 3) (xVar 6)) (xNilA)))) (xNilA))))))) (xVar 6) [6]
def lw2 : GS := xSeq (xAsg lwC (xName 5)) (xIfS (xT (xOp fNe (xVar 5) (xLst (xNilA)))) (xRet (xTup (xConsA (xVar 4) (xConsA (xOp fIx (xVar 5) (xC (.int 0))) (xNilA))))) (xNext))
theorem lfew_one (h : WdOk hd as p gs) {w : W} (hw : A.plain w = true) : ∀ i ∈ List.range gs.length, ∀ ss, fwI hd as p gs ss → ∃ ss1, (xName 4) (.int (i : Nat)) ss = some ss1 ∧ ((∃ a, oneV (hold hd as p) gs i = some a ∧ lw1 ss1 w = some (.rt a w)) ∨ (oneV (hold hd as p) gs i = none ∧ ∃ ss2, fwI hd as p gs ss2 ∧ lw1 ss1 w = some (.nx ss2 w))) := by
  rintro i hi ss ⟨s4, s5, s6, rfl⟩
  have e := lhold1 h hw (List.mem_range.mp hi)
  have c1 := cut_one (List.mem_range.mp hi)
  refine ⟨_, rfl, ?_⟩
  unfold oneV
  by_cases c : hold hd as p [gat gs i] = true
  · rw [c] at e
    exact .inl ⟨_, if_pos c, by simp [lw1, c1, e]⟩
  · have c' : hold hd as p [gat gs i] = false := by simpa using c
    rw [c'] at e
    exact .inr ⟨if_neg c, _, ⟨some (.int i), s5, s6, rfl⟩, by simp [lw1, c1, e]⟩
theorem find_filter {α β : Type} (b : α → Bool) (f : α → β) : ∀ xs : List α, xs.findSome? (fun x => if b x then some (f x) else none) = ((xs.filter b).head?).map f
  | [] => rfl
  | x :: xs => by
    rw [List.findSome?_cons]
    by_cases h : b x = true
    · rw [if_pos h, List.filter_cons_of_pos h]
      rfl
    · rw [if_neg h, List.filter_cons_of_neg h]
      exact find_filter b f xs
theorem lfew_in (h : WdOk hd as p gs) {w : W} (hw : A.plain w = true) : ∀ i ∈ List.range gs.length, ∀ ss, fwI hd as p gs ss → ∃ ss1, (xName 4) (.int (i : Nat)) ss = some ss1 ∧ ((∃ a, (laterOf gs.length i).findSome? (twoV (hold hd as p) gs i) = some a ∧ lw2 ss1 w = some (.rt a w)) ∨ ((laterOf gs.length i).findSome? (twoV (hold hd as p) gs i) = none ∧ ∃ ss2, fwI hd as p gs ss2 ∧ lw2 ss1 w = some (.nx ss2 w))) := by
  rintro i hi ss ⟨s4, s5, s6, rfl⟩
  have hi2 := List.mem_range.mp hi
  have hm := h.m
  refine ⟨[some (enc hd), some (.tup (as.map encAsk)), some (encPl p), some (.tup (gs.map encG)), some (.int i), s5, s6], rfl, ?_⟩
  have r1 : rngOk ((i : Int) + 1) = true := sure_iff.mpr (by omega)
  have r2 : rngOk (gs.length : Int) = true := sure_iff.mpr (by omega)
  have t : ((gs.length : Int) - ((i : Int) + 1)).toNat = gs.length - (i + 1) := by omega
  have x1 := ix_gs hi2
  have lc := lc_map (g := xName 6) (gt := xT (xCall G__law_guarded (xConsA (xVar 0) (xConsA (xVar 1) (xConsA (xVar 2) (xConsA (xTup (xConsA (xOp fIx (xVar 3) (xVar 4)) (xConsA (xOp fIx (xVar 3) (xVar 6)) (xNilA)))) (xNilA))))))) (ge := xVar 6) (s0 := [some (enc hd), some (.tup (as.map encAsk)), some (encPl p), some (.tup (gs.map encG)), some (.int i), s5, none]) (w := w)
    (fun j : Nat => A.int j) (fun j => [some (enc hd), some (.tup (as.map encAsk)), some (encPl p), some (.tup (gs.map encG)), some (.int i), s5, some (.int (j : Nat))]) (fun j => hold hd as p [gat gs i, gat gs j]) (fun j => A.int j) (laterOf gs.length i) (fun j hj => ⟨rfl, by
      have hj2 := (later_lt hj).2
      have x2 := ix_gs hj2
      have e := lhold2 h hw hi2 hj2
      simp [-fIx, x1, x2, e], fun _ => rfl⟩)
  have len : (laterOf gs.length i).length ≤ 7 := by
    unfold laterOf
    rw [List.length_range']
    omega
  have C : lwC [some (enc hd), some (.tup (as.map encAsk)), some (encPl p), some (.tup (gs.map encG)), some (.int i), s5, s6] w = some (.lst (((laterOf gs.length i).filter fun j => hold hd as p [gat gs i, gat gs j]).map fun j => A.int (j : Nat)), w) := by
    refine xLc_eq (xs := (laterOf gs.length i).map fun j : Nat => A.int j) ?_ (by rw [List.length_map]; omega) lc
    rw [← nums1]
    simp [yRng2, r1, r2, t]
  have F : (laterOf gs.length i).findSome? (twoV (hold hd as p) gs i) = (((laterOf gs.length i).filter fun j => hold hd as p [gat gs i, gat gs j]).head?).map fun j : Nat => A.tup [.int i, .int j] := find_filter (fun j => hold hd as p [gat gs i, gat gs j]) (fun j : Nat => A.tup [.int i, .int j]) _
  rw [F]
  have fl : ((laterOf gs.length i).filter fun j => hold hd as p [gat gs i, gat gs j]).length ≤ 7 := Nat.le_trans (List.length_filter_le _ _) len
  have dt : ∀ l : List Nat, A.dats 39 (l.map fun j => A.int (j : Nat)) = true := fun l => by
    induction l with
    | nil => rfl
    | cons a l ih =>
      rw [List.map_cons]
      show (A.dat 39 (.int a) && A.dats 39 (l.map fun j => A.int (j : Nat))) = true
      rw [ih]
      rfl
  generalize ((laterOf gs.length i).filter fun j => hold hd as p [gat gs i, gat gs j]) = l at *
  unfold lw2
  rw [xSeq_eq (xAsg_eq C)]
  cases l with
  | nil => exact .inr ⟨rfl, _, ⟨some (.int i), some (.lst []), s6, rfl⟩, by simp⟩
  | cons j l =>
    have d1 := dt l
    exact .inl ⟨_, rfl, by simp [d1]⟩
theorem G__law_fewest_eq (h : WdOk hd as p gs) {w : W} (hw : A.plain w = true) : G__law_fewest [enc hd, .tup (as.map encAsk), encPl p, .tup (gs.map encG)] w = some (few (hold hd as p) gs, w) := by
  have hm := h.m
  have hn := h.n
  obtain ⟨c0, e0, e1⟩ := G__law_wet_eq h.h0 h.hs h.oka h.okp (by omega) hw
  have e2 := fIsN_lspan e1
  have eq : sure (∀ t, ¬ Sem hd (as ++ [.over p, .under p]) t) = hold hd as p [] := sure_congr (by
    unfold Off Wt
    rw [List.map_nil, List.append_nil])
  rw [eq] at e2
  have r2 : rngOk (gs.length : Int) = true := sure_iff.mpr (by omega)
  unfold G__law_fewest
  refine (xDef_eq (n := 4) (as := [_, _, _, _]) rfl).trans ?_
  show xDef.xRun (B__law_fewest [some (enc hd), some (.tup (as.map encAsk)), some (encPl p), some (.tup (gs.map encG)), none, none, none] w) = _
  unfold B__law_fewest
  unfold few
  by_cases c : hold hd as p [] = true
  · rw [c] at e2
    rw [if_pos c]
    have d2 : xIfS (xT (xUn fIsN (xCall G__law_wet (xConsA (xVar 0) (xConsA (xVar 1) (xConsA (xVar 2) (xNilA))))))) (xRet (xTup (xNilA))) (xNext) [some (enc hd), some (.tup (as.map encAsk)), some (encPl p), some (.tup (gs.map encG)), none, none, none] w = some (.rt (.tup []) w) := by simp [e0, -fIsN, e2]
    unfold xSeq
    rw [d2]
    rfl
  · have c' : hold hd as p [] = false := by simpa using c
    rw [c'] at e2
    rw [if_neg c]
    have d2 : xIfS (xT (xUn fIsN (xCall G__law_wet (xConsA (xVar 0) (xConsA (xVar 1) (xConsA (xVar 2) (xNilA))))))) (xRet (xTup (xNilA))) (xNext) [some (enc hd), some (.tup (as.map encAsk)), some (encPl p), some (.tup (gs.map encG)), none, none, none] w = some (.nx [some (enc hd), some (.tup (as.map encAsk)), some (encPl p), some (.tup (gs.map encG)), none, none, none] w) := by simp [e0, -fIsN, e2]
    rw [xSeq_eq d2]
    have it : ∀ (gb : GS) ss out, fwI hd as p gs ss → forLoop (xName 4) gb ((List.range gs.length).map fun i => A.int (i : Nat)) ss w = some out → xFor (yRng1 (xBlt bLen (xConsA (xVar 3) (xNilA)))) (xName 4) gb ss w = some out := fun gb ss out ⟨s4, s5, s6, hs⟩ ho => by
      subst hs
      rw [← nums0] at ho
      simp [yRng1, r2, -forLoop, ho]
    show xDef.xRun (xSeq (xFor (yRng1 (xBlt bLen (xConsA (xVar 3) (xNilA)))) (xName 4) lw1) (xSeq (xFor (yRng1 (xBlt bLen (xConsA (xVar 3) (xNilA)))) (xName 4) lw2) (xRet (xC .non))) _ w) = _
    rcases for_find (w := w) (fun i : Nat => A.int (i : Nat)) (oneV (hold hd as p) gs) (fwI hd as p gs) (List.range gs.length) (lfew_one h hw) _ ⟨none, none, none, rfl⟩ with ⟨a, f1, f2⟩ | ⟨f1, ss2, i2, f2⟩
    · unfold xSeq
      rw [it _ _ _ ⟨none, none, none, rfl⟩ f2, f1]
      rfl
    · rw [xSeq_eq (it _ _ _ ⟨none, none, none, rfl⟩ f2), f1]
      dsimp only
      rcases for_find (w := w) (fun i : Nat => A.int (i : Nat)) (fun i => (laterOf gs.length i).findSome? (twoV (hold hd as p) gs i)) (fwI hd as p gs) (List.range gs.length) (lfew_in h hw) ss2 i2 with ⟨a, k1, k2⟩ | ⟨k1, ss3, i3, k2⟩
      · unfold xSeq
        rw [it _ _ _ i2 k2, k1]
        rfl
      · rw [xSeq_eq (it _ _ _ i2 k2), k1]
        rfl
/-- what the fewest tells -/
theorem few_tells (h : WdOk hd as p gs) : (few (hold hd as p) gs = .non ∧ hold hd as p gs = false) ∨ (few (hold hd as p) gs = .tup [] ∧ hold hd as p gs = true) ∨
    (∃ i, i < gs.length ∧ few (hold hd as p) gs = .tup [.int (i : Nat)] ∧ hold hd as p [gat gs i] = true ∧ hold hd as p gs = true) ∨
    ∃ i j, i < gs.length ∧ j < gs.length ∧ few (hold hd as p) gs = .tup [.int (i : Nat), .int (j : Nat)] ∧ hold hd as p [gat gs i, gat gs j] = true ∧ hold hd as p gs = true := by
  have up : ∀ {hs : List Gd}, (∀ g ∈ hs, g ∈ gs) → hold hd as p hs = true → hold hd as p gs = true := fun hg z => sure_iff.mpr (Off.mono (sure_iff.mp z) hg)
  unfold few
  by_cases c : hold hd as p [] = true
  · rw [if_pos c]
    exact .inr (.inl ⟨rfl, up (hs := []) (fun g z => by cases z) c⟩)
  · rw [if_neg c]
    cases h1 : (List.range gs.length).findSome? (oneV (hold hd as p) gs) with
    | some a =>
      obtain ⟨i, hi, hv⟩ := List.exists_of_findSome?_eq_some h1
      unfold oneV at hv
      split at hv
      · rename_i c2
        cases hv
        have hi2 := List.mem_range.mp hi
        exact .inr (.inr (.inl ⟨i, hi2, rfl, c2, up (fun g z => by rw [List.mem_singleton.mp z]; exact mem_get hi2) c2⟩))
      · cases hv
    | none =>
      dsimp only
      have n1 := List.findSome?_eq_none_iff.mp h1
      cases h2 : (List.range gs.length).findSome? fun i => (laterOf gs.length i).findSome? (twoV (hold hd as p) gs i) with
      | some a =>
        obtain ⟨i, hi, hv⟩ := List.exists_of_findSome?_eq_some h2
        obtain ⟨j, hj, hv⟩ := List.exists_of_findSome?_eq_some hv
        unfold twoV at hv
        split at hv
        · rename_i c2
          cases hv
          have hi2 := List.mem_range.mp hi
          have hj2 := (later_lt hj).2
          refine .inr (.inr (.inr ⟨i, j, hi2, hj2, rfl, c2, up (fun g z => ?_) c2⟩))
          rcases List.mem_cons.mp z with rfl | z
          · exact mem_get hi2
          · rw [List.mem_singleton.mp z]
            exact mem_get hj2
        · cases hv
      | none =>
        have n2 := List.findSome?_eq_none_iff.mp h2
        refine .inl ⟨rfl, ?_⟩
        cases hall : hold hd as p gs with
        | false => rfl
        | true =>
          exfalso
          have mem : ∀ g ∈ gs, ∃ i, i < gs.length ∧ gat gs i = g := fun g hg => by
            obtain ⟨i, hi, e⟩ := List.mem_iff_getElem.mp hg
            exact ⟨i, hi, by rw [gat_eq hi, e]⟩
          rcases helly h.gd (sure_iff.mp hall) with z | ⟨g, hg, z⟩ | ⟨g, hg, g', hg', hne, z⟩
          · exact c (sure_iff.mpr z)
          · obtain ⟨i, hi, rfl⟩ := mem g hg
            have := n1 i (List.mem_range.mpr hi)
            unfold oneV at this
            rw [if_pos (show hold hd as p [gat gs i] = true from sure_iff.mpr z)] at this
            cases this
          · obtain ⟨i, hi, rfl⟩ := mem g hg
            obtain ⟨j, hj, rfl⟩ := mem g' hg'
            have no : ∀ {i j : Nat}, i < j → j < gs.length → Off hd as p [gat gs i, gat gs j] → False := fun {i j} hij hj z => by
              have q := List.findSome?_eq_none_iff.mp (n2 i (List.mem_range.mpr (by omega))) j (by
                unfold laterOf
                rw [List.mem_range'_1]
                omega)
              unfold twoV at q
              rw [if_pos (show hold hd as p [gat gs i, gat gs j] = true from sure_iff.mpr z)] at q
              cases q
            rcases Nat.lt_trichotomy i j with k | k | k
            · exact no k hj z
            · subst k
              exact hne rfl
            · exact no k hi (Off.mono z fun g q => by
                rcases List.mem_cons.mp q with rfl | q
                · exact List.mem_cons_of_mem _ List.mem_cons_self
                · rw [List.mem_singleton.mp q]
                  exact List.mem_cons_self)
end
end
end Sp
/-! CH 1: the checks let the drawn world through. -/
namespace Sp
noncomputable section
theorem G_whole_eq (i : Int) (w : W) : G_is_whole [.int i] w = some (.bl true, w) := by
  simp [G_is_whole, B_is_whole]
theorem G_wholes2_eq (i j : Int) (w : W) : G_are_wholes [.tup [.int i, .int j], .int 2] w = some (.bl true, w) := by
  simp [G_are_wholes, B_are_wholes, G_whole_eq, bAll, blsOf]
theorem G_wholes3_eq (i j k : Int) (w : W) : G_are_wholes [.tup [.int i, .int j, .int k], .int 3] w = some (.bl true, w) := by
  simp [G_are_wholes, B_are_wholes, G_whole_eq, bAll, blsOf]
theorem G_divisor_of3 (a b c : Int) (w : W) : G_divisor_of [.tup [.int a, .int b, .int c]] w = some (.int (gcdAll [a, b, c]), w) := by
  simp [G_divisor_of, B_divisor_of, gcdAll]
theorem G_ratio_ok (r : Rat) (w : W) : G_is_ratio [enc r] w = some (.bl true, w) := by
  have h := r.reduced
  have d := r.den_pos
  have e : Int.gcd r.num r.den = 1 := h
  have e2 : G_is_reduced [enc r] w = some (.bl true, w) := by
    simp [G_is_reduced, B_is_reduced, enc, G_divisor_of2, e]
  have e3 : G_are_wholes [enc r, .int 2] w = some (.bl true, w) := G_wholes2_eq _ _ _
  have g : fIx (enc r) (.int 1) = some (.int r.den) := rfl
  simp [G_is_ratio, B_is_ratio, e2, e3, -fIx, g, d]
theorem G_spot_ok {a : Pl} (h : PlOk a) (w : W) : G_is_spot [encPl a] w = some (.bl true, w) := by
  have h0 := h.r0
  have e2 : G_is_reduced [encPl a] w = some (.bl true, w) := by
    simp [G_is_reduced, B_is_reduced, encPl, G_divisor_of3, h.red]
  have e3 : G_are_wholes [encPl a, .int 3] w = some (.bl true, w) := G_wholes3_eq _ _ _ _
  have g : fIx (encPl a) (.int 2) = some (.int a.r) := rfl
  simp [G_is_spot, B_is_spot, e2, e3, -fIx, g, h0]
theorem pl_pp {a : Pl} (h : PlOk a) : 0 < a.p := by
  obtain ⟨p1, p2, p3⟩ := pl_x h
  have h1 : (0 : Rat) < (a.p : Rat) := by
    rw [p1]
    exact Rat.mul_pos h.xp (Rat.intCast_pos.mpr h.r0)
  exact Rat.intCast_pos.mp h1
theorem G_ahead_ok {a : Pl} (h : PlOk a) (w : W) : G_is_ahead [encPl a] w = some (.bl true, w) := by
  have h0 := pl_pp h
  have g : fIx (encPl a) (.int 0) = some (.int a.p) := rfl
  simp [G_is_ahead, B_is_ahead, G_spot_ok h, -fIx, g, h0]
theorem G_nearer_ok {a b : Pl} (ha : PlOk a) (hb : PlOk b) (hab : a.x < b.x) (w : W) : G_is_nearer [encPl a, encPl b] w = some (.bl true, w) := by
  obtain ⟨p1, p2, p3⟩ := pl_x ha
  obtain ⟨q1, q2, q3⟩ := pl_x hb
  have m1 := mulOk_of ha.ip hb.ir (by omega)
  have m2 := mulOk_of hb.ip ha.ir (by omega)
  have lt : a.p * b.r < b.p * a.r := by
    have r1 : (0 : Rat) < (a.r : Rat) := Rat.intCast_pos.mpr ha.r0
    have r2 : (0 : Rat) < (b.r : Rat) := Rat.intCast_pos.mpr hb.r0
    have := Rat.mul_lt_mul_of_pos_right hab (Rat.mul_pos r1 r2)
    have k : ((a.p * b.r : Int) : Rat) < ((b.p * a.r : Int) : Rat) := by
      rw [Rat.intCast_mul, Rat.intCast_mul, p1, q1]
      grind
    exact Rat.intCast_lt_intCast.mp k
  simp [G_is_nearer, B_is_nearer, encPl, m1, m2, lt]
theorem num_ge {r : Rat} (h : 0 ≤ r) : 0 ≤ r.num := Rat.num_nonneg.mpr h
theorem G_asking_ok {a : Ask} (h : AskOk a) (w : W) : G_is_asking [encAsk a] w = some (.bl true, w) := by
  have g : ∀ r : Rat, fIx (enc r) (.int 0) = some (.int r.num) := fun _ => rfl
  have two : ∀ x y : A, fIx (.tup [x, y]) (.int 0) = some x ∧ fIx (.tup [x, y]) (.int 1) = some y := fun _ _ => ⟨rfl, rfl⟩
  have three : ∀ x y z : A, fIx (.tup [x, y, z]) (.int 0) = some x ∧ fIx (.tup [x, y, z]) (.int 1) = some y ∧ fIx (.tup [x, y, z]) (.int 2) = some z := fun _ _ _ => ⟨rfl, rfl, rfl⟩
  cases a with
  | over a => simp [G_is_asking, B_is_asking, encAsk, -fIx, two, fIn, intsOf, strsOf, cPLACED, G_ahead_ok h]
  | under a => simp [G_is_asking, B_is_asking, encAsk, -fIx, two, fIn, intsOf, strsOf, cPLACED, G_ahead_ok h]
  | roof a b => simp [G_is_asking, B_is_asking, encAsk, -fIx, three, fIn, intsOf, strsOf, cPLACED, words, G_ahead_ok h.1, G_ahead_ok h.2.1, G_nearer_ok h.1 h.2.1 h.2.2]
  | low k =>
    have k0 := num_pos.mpr h.2
    have k1 := h.2
    simp [G_is_asking, B_is_asking, encAsk, -fIx, two, fIn, intsOf, strsOf, cPLACED, cBENT, words, G_ratio_ok, g, k0, k1]
  | quick k =>
    have k0 := num_pos.mpr h.2
    have k1 := h.2
    simp [G_is_asking, B_is_asking, encAsk, -fIx, two, fIn, intsOf, strsOf, cPLACED, cBENT, words, G_ratio_ok, g, k0, k1]
  | slow k =>
    have k0 := num_pos.mpr h.2
    have k1 := h.2
    simp [G_is_asking, B_is_asking, encAsk, -fIx, two, fIn, intsOf, strsOf, cPLACED, cBENT, words, G_ratio_ok, g, k0, k1]
  | dives x s =>
    have k0 := num_ge h.2.2
    have k1 := h.2.2
    simp [G_is_asking, B_is_asking, encAsk, -fIx, three, fIn, intsOf, strsOf, cPLACED, cSTEEP, words, G_ratio_ok, g, k0, k1]
  | climbs x s =>
    have k0 := num_ge h.2.2
    have k1 := h.2.2
    simp [G_is_asking, B_is_asking, encAsk, -fIx, three, fIn, intsOf, strsOf, cPLACED, cSTEEP, words, G_ratio_ok, g, k0, k1]
/-- a loop that looks for none -/
theorem for_none {α : Type} {g : GG} {gb : GS} {w : W} (en : α → A) (I : SS → Prop) : ∀ (xs : List α), (∀ x ∈ xs, ∀ ss, I ss → ∃ ss1, g (en x) ss = some ss1 ∧ ∃ ss2, I ss2 ∧ gb ss1 w = some (.nx ss2 w)) → ∀ ss, I ss → ∃ ss2, I ss2 ∧ forLoop g gb (xs.map en) ss w = some (.nx ss2 w) := fun xs h ss i => by
  rcases for_find en (fun _ => none) I xs (fun x hx ss i => by
    obtain ⟨ss1, h1, h2⟩ := h x hx ss i
    exact ⟨ss1, h1, .inr ⟨rfl, h2⟩⟩) ss i with ⟨a, h1, _⟩ | ⟨_, h2⟩
  · have := List.findSome?_eq_some_iff.mp h1
    obtain ⟨_, _, _, _, q, _⟩ := this
    cases q
  · exact h2
theorem G_check_head_ok {hd : Rat} (h : 0 < hd) (w : W) : G_check_head [enc hd] w = some (.non, w) := by
  have k0 : ¬ hd.num ≤ 0 := by have := num_pos.mpr h; omega
  have g : fIx (enc hd) (.int 0) = some (.int hd.num) := rfl
  simp [G_check_head, B_check_head, G_ratio_ok, -fIx, g, k0]
theorem G_check_place_ok {p : Pl} (h : PlOk p) (w : W) : G_check_place [encPl p] w = some (.non, w) := by
  simp [G_check_place, B_check_place, G_ahead_ok h]
theorem pairs_as (as : List Ask) : pairs (nums 0 as.length) (as.map encAsk) = (List.range as.length).map fun i : Nat => .tup [.int i, encAsk (as.getD i (.low 1))] := by
  unfold pairs
  rw [nums0]
  refine List.ext_getElem ?_ fun i h1 h2 => ?_
  · simp
  · simp only [List.length_map, List.length_zip, List.length_range] at h1
    have hi : i < as.length := by omega
    simp [hi]
theorem G_check_asks_ok {as : List Ask} (h : ∀ a ∈ as, AskOk a) (hn : as.length ≤ 7) (w : W) : G_check_asks [.tup (as.map encAsk)] w = some (.non, w) := by
  have loop := for_none (g := xTupG (xConsG (xName 1) (xConsG (xName 2) (xNilG)))) (gb := xIfS (xOr (xT (xOp fEq (xVar 1) (xC cMOST_ASKS))) (xNot (xT (xCall G_is_asking (xConsA (xVar 2) (xNilA)))))) (xNever) (xNext)) (w := w)
    (fun i : Nat => .tup [.int i, encAsk (as.getD i (.low 1))]) (fun ss => ∃ a b, ss = [some (.tup (as.map encAsk)), a, b]) (List.range as.length) (fun i hi ss ⟨a, b, hs⟩ => by
      subst hs
      have hi2 := List.mem_range.mp hi
      have ok : AskOk (as.getD i (.low 1)) := by
        have e : as.getD i (.low 1) = as[i] := by simp [hi2]
        rw [e]
        exact h _ (List.getElem_mem hi2)
      have n8 : ¬ (i : Int) = 8 := by omega
      refine ⟨_, rfl, _, ⟨some (.int i), some (encAsk (as.getD i (.low 1))), rfl⟩, ?_⟩
      have e := G_asking_ok ok w
      generalize as.getD i (.low 1) = b at *
      simp [e, cMOST_ASKS, n8]) [some (.tup (as.map encAsk)), none, none] ⟨none, none, rfl⟩
  obtain ⟨ss2, ⟨a, b, rfl⟩, e⟩ := loop
  rw [← pairs_as] at e
  unfold G_check_asks
  refine (xDef_eq (n := 1) (as := [_]) rfl).trans ?_
  show xDef.xRun (xSeq (xIfS (xNot (xT (xUn (fIsi "tuple") (xVar 0)))) (xNever) (xNext)) (xFor (yEnum (xVar 0)) (xTupG (xConsG (xName 1) (xConsG (xName 2) (xNilG)))) (xIfS (xOr (xT (xOp fEq (xVar 1) (xC cMOST_ASKS))) (xNot (xT (xCall G_is_asking (xConsA (xVar 2) (xNilA)))))) (xNever) (xNext))) [some (.tup (as.map encAsk)), none, none] w) = _
  have d1 : xIfS (xNot (xT (xUn (fIsi "tuple") (xVar 0)))) (xNever) (xNext) [some (.tup (as.map encAsk)), none, none] w = some (.nx [some (.tup (as.map encAsk)), none, none] w) := by simp
  rw [xSeq_eq d1]
  unfold xFor
  show xDef.xRun (forLoop _ _ (pairs (nums 0 (as.map encAsk).length) (as.map encAsk)) _ w) = _
  rw [List.length_map, e]
  rfl
theorem G_guard_ok {g : Gd} (h : PlOk g.a) (w : W) : G_is_guard [encG g] w = some (.bl true, w) := by
  obtain ⟨post, a⟩ := g
  cases post <;> simp [G_is_guard, B_is_guard, encG, fNotPassed, G_ahead_ok h]
theorem G_check_guards_ok {gs : List Gd} (h : ∀ g ∈ gs, PlOk g.a) (h0 : gs ≠ []) (hn : gs.length ≤ 7) (w : W) : G_check_guards [.tup (gs.map encG)] w = some (.non, w) := by
  have loop := for_none (g := xTupG (xConsG (xName 1) (xConsG (xName 2) (xNilG)))) (gb := xIfS (xOr (xT (xOp fEq (xVar 1) (xC cMOST_GUARDS))) (xNot (xT (xCall G_is_guard (xConsA (xVar 2) (xNilA)))))) (xNever) (xNext)) (w := w)
    (fun i : Nat => .tup [.int i, encG (gat gs i)]) (fun ss => ∃ a b, ss = [some (.tup (gs.map encG)), a, b]) (List.range gs.length) (fun i hi ss ⟨a, b, hs⟩ => by
      subst hs
      have hi2 := List.mem_range.mp hi
      have e := G_guard_ok (h _ (mem_get hi2)) w
      have n8 : ¬ (i : Int) = 8 := by omega
      refine ⟨_, rfl, _, ⟨some (.int i), some (encG (gat gs i)), rfl⟩, ?_⟩
      simp [e, cMOST_GUARDS, n8]) [some (.tup (gs.map encG)), none, none] ⟨none, none, rfl⟩
  obtain ⟨ss2, ⟨a, b, rfl⟩, e⟩ := loop
  rw [← pairs_gs] at e
  unfold G_check_guards
  refine (xDef_eq (n := 1) (as := [_]) rfl).trans ?_
  show xDef.xRun (xSeq (xIfS (xOr (xNot (xT (xUn (fIsi "tuple") (xVar 0)))) (xT (xOp fEq (xVar 0) (xTup (xNilA))))) (xNever) (xNext)) (xFor (yEnum (xVar 0)) (xTupG (xConsG (xName 1) (xConsG (xName 2) (xNilG)))) (xIfS (xOr (xT (xOp fEq (xVar 1) (xC cMOST_GUARDS))) (xNot (xT (xCall G_is_guard (xConsA (xVar 2) (xNilA)))))) (xNever) (xNext))) [some (.tup (gs.map encG)), none, none] w) = _
  have dg : ∀ (g : Gd) (n : Nat), A.dat (n + 3) (encG g) = true := fun g n => by
    obtain ⟨post, a⟩ := g
    cases post <;> simp [encG, encPl, words]
  have ds : ∀ l : List Gd, A.dats 39 (l.map encG) = true := fun l => by
    induction l with
    | nil => rfl
    | cons g l ih =>
      rw [List.map_cons]
      show (A.dat 39 (encG g) && A.dats 39 (l.map encG)) = true
      rw [ih, dg g 36]
      rfl
  have d1 : xIfS (xOr (xNot (xT (xUn (fIsi "tuple") (xVar 0)))) (xT (xOp fEq (xVar 0) (xTup (xNilA))))) (xNever) (xNext) [some (.tup (gs.map encG)), none, none] w = some (.nx [some (.tup (gs.map encG)), none, none] w) := by
    cases gs with
    | nil => exact absurd rfl h0
    | cons g l =>
      have d2 := ds (g :: l)
      rw [List.map_cons] at d2
      simp at d2
      simp [d2]
  rw [xSeq_eq d1]
  unfold xFor
  show xDef.xRun (forLoop _ _ (pairs (nums 0 (gs.map encG).length) (gs.map encG)) _ w) = _
  rw [List.length_map, e]
  rfl
theorem G_check_ok {hd : Rat} {as : List Ask} {p : Pl} {gs : List Gd} (h : WdOk hd as p gs) (h0 : gs ≠ []) (w : W) : G_check_guarded [enc hd, .tup (as.map encAsk), encPl p, .tup (gs.map encG)] w = some (.non, w) := by
  have c1 : G_check_target [enc hd, .tup (as.map encAsk), encPl p] w = some (.non, w) := by
    simp [G_check_target, B_check_target, G_check_head_ok h.h0, G_check_asks_ok h.oka h.n, G_check_place_ok h.okp]
  have c2 := G_check_guards_ok (fun g hg => (h.okg g hg).1) h0 h.m w
  have loop := for_none (g := xName 4) (gb := xIfS (xNot (xT (xCall G_is_nearer (xConsA (xOp fIx (xVar 4) (xC (.int 1))) (xConsA (xVar 2) (xNilA)))))) (xNever) (xNext)) (w := w)
    encG (fun ss => ∃ a, ss = [some (enc hd), some (.tup (as.map encAsk)), some (encPl p), some (.tup (gs.map encG)), a]) gs (fun g hg ss ⟨a, hs⟩ => by
      subst hs
      have e := G_nearer_ok (h.okg g hg).1 h.okp (h.okg g hg).2 w
      have x : fIx (encG g) (.int 1) = some (encPl g.a) := rfl
      refine ⟨_, rfl, _, ⟨some (encG g), rfl⟩, ?_⟩
      simp [-fIx, x, e]) [some (enc hd), some (.tup (as.map encAsk)), some (encPl p), some (.tup (gs.map encG)), none] ⟨none, rfl⟩
  obtain ⟨ss2, ⟨a, rfl⟩, e⟩ := loop
  unfold G_check_guarded
  refine (xDef_eq (n := 4) (as := [_, _, _, _]) rfl).trans ?_
  show xDef.xRun (xSeq (xDrop (xCall G_check_target (xConsA (xVar 0) (xConsA (xVar 1) (xConsA (xVar 2) (xNilA)))))) (xSeq (xDrop (xCall G_check_guards (xConsA (xVar 3) (xNilA)))) (xFor (yTup (xVar 3)) (xName 4) (xIfS (xNot (xT (xCall G_is_nearer (xConsA (xOp fIx (xVar 4) (xC (.int 1))) (xConsA (xVar 2) (xNilA)))))) (xNever) (xNext)))) [some (enc hd), some (.tup (as.map encAsk)), some (encPl p), some (.tup (gs.map encG)), none] w) = _
  have d1 : xDrop (xCall G_check_target (xConsA (xVar 0) (xConsA (xVar 1) (xConsA (xVar 2) (xNilA))))) [some (enc hd), some (.tup (as.map encAsk)), some (encPl p), some (.tup (gs.map encG)), none] w = some (.nx [some (enc hd), some (.tup (as.map encAsk)), some (encPl p), some (.tup (gs.map encG)), none] w) := by simp [c1]
  have d2 : xDrop (xCall G_check_guards (xConsA (xVar 3) (xNilA))) [some (enc hd), some (.tup (as.map encAsk)), some (encPl p), some (.tup (gs.map encG)), none] w = some (.nx [some (enc hd), some (.tup (as.map encAsk)), some (encPl p), some (.tup (gs.map encG)), none] w) := by simp [c2]
  rw [xSeq_eq d1, xSeq_eq d2]
  unfold xFor
  show xDef.xRun (forLoop _ _ (gs.map encG) _ w) = _
  rw [e]
  rfl
theorem G_is_guarded_eq {hd : Rat} {as : List Ask} {p : Pl} {gs : List Gd} (h : WdOk hd as p gs) (h0 : gs ≠ []) {w : W} (hw : A.plain w = true) : G_is_guarded [enc hd, .tup (as.map encAsk), encPl p, .tup (gs.map encG)] w = some (.bl (hold hd as p gs), w) := by
  simp [G_is_guarded, B_is_guarded, G_check_ok h h0, G_hold_eq h hw]
end
end Sp
/-! DR 1: the well and what is drawn from it. -/
namespace Sp
noncomputable section
/-- the well: what is great, the stirred, the count -/
def Well (rest : W) (k : Nat) (w : W) : Prop := ∃ a b c : Int, w = [.int a, .int b, .int c] :: rest ∧ 0 ≤ a ∧ 0 ≤ b ∧ b < 1000000123 ∧ 0 ≤ c ∧ c ≤ k
theorem Well.mono {rest : W} {k l : Nat} {w : W} (h : Well rest k w) (hk : k ≤ l) : Well rest l w := by
  obtain ⟨a, b, c, h1, h2, h3, h4, h5, h6⟩ := h
  exact ⟨a, b, c, h1, h2, h3, h4, h5, by omega⟩
theorem Well.plain {k : Nat} {w : W} (h : Well [] k w) : A.plain w = true := by
  obtain ⟨a, b, c, rfl, _⟩ := h
  rfl
theorem is_small {i : Int} {n : Nat} (h : i.natAbs < 2 ^ n) : IS n i := h
theorem G_draw_eq {rest : W} {k : Nat} {w : W} (h : Well rest k w) (hk : k < 100000) {m : Int} (m0 : 0 < m) (m1 : m ≤ 1000) : ∃ d w', G__law_draw [.cell 0, .int m] w = some (.int d, w') ∧ 0 ≤ d ∧ d < m ∧ Well rest (k + 1) w' := by
  obtain ⟨a, b, c, rfl, a0, b0, b1, c0, c1⟩ := h
  by_cases ha : 0 < a
  · refine ⟨a % m, [.int (a / m), .int b, .int c] :: rest, ?_, Int.emod_nonneg _ (by omega), Int.emod_lt_of_pos _ m0, a / m, b, c, rfl, Int.ediv_nonneg a0 (by omega), b0, b1, c0, by omega⟩
    have s : sure (0 < m ∧ m < 1073741824) = true := sure_iff.mpr (by omega)
    simp [G__law_draw, B__law_draw, xIxC, ha, xDivC, s]
  · have hc : IS 20 (c + 1) := is_small (by omega)
    have hb : IS 30 b := is_small (by omega)
    have i37 : IS 6 (37 : Int) := is_small (by decide)
    have i8 : IS 17 (80021 : Int) := is_small (by decide)
    have i29 : IS 5 (29 : Int) := is_small (by decide)
    have k1 := mulOk_of hb i37 (by omega)
    have k2 := mulOk_of i8 hc (by omega)
    have k3 := mulOk_of i29 hc (by omega)
    generalize hmx : (b * 37 + 80021 * (c + 1) + 11) % 1000000123 = mx
    have x0 : 0 ≤ mx := by omega
    have x1 : mx < 1000000123 := by omega
    have hm : IS 30 mx := is_small (by omega)
    have hf : IS 20 (mx % 6961 + 21001) := is_small (by omega)
    have k4 := mulOk_of hm hf (by omega)
    generalize hq : mx * (mx % 6961 + 21001) = q at *
    generalize hb2 : (q + 29 * (c + 1)) % 1000000123 = b2
    have y0 : 0 ≤ b2 := by omega
    have y1 : b2 < 1000000123 := by omega
    refine ⟨b2.fdiv 191 % m, [.int a, .int b2, .int (c + 1)] :: rest, ?_, Int.emod_nonneg _ (by omega), Int.emod_lt_of_pos _ m0, a, b2, c + 1, rfl, a0, y0, y1, by omega, by omega⟩
    have l191 : Nat.log2 191 < 9000 := by decide
    simp [G__law_draw, B__law_draw, xIxC, ha, xSetC, k1, k2, hmx, k3, k4, hq, hb2, l191, m0]
theorem G_pick_eq {rest : W} {k : Nat} {w : W} (h : Well rest k w) (hk : k < 100000) (xs : List A) (h0 : 0 < xs.length) (h1 : xs.length ≤ 1000) : ∃ a w', G__law_pick [.cell 0, .tup xs] w = some (a, w') ∧ a ∈ xs ∧ Well rest (k + 1) w' := by
  obtain ⟨d, w', e, d0, d1, wl⟩ := G_draw_eq h hk (m := (xs.length : Int)) (by omega) (by omega)
  have hd : d.toNat < xs.length := by omega
  refine ⟨xs[d.toNat], w', ?_, List.getElem_mem hd, wl⟩
  simp [G__law_pick, B__law_pick, e, d0, hd]
/-! ### sizes apart -/
structure Zs (m n : Nat) (r : Rat) : Prop where
  num : IS m r.num
  den : r.den < 2 ^ n
theorem Zs.sz {m n k : Nat} {r : Rat} (h : Zs m n r) (h1 : m ≤ k) (h2 : n ≤ k) : Sz k r := ⟨h.num.mono h1, Nat.lt_of_lt_of_le h.den (p2_mono h2)⟩
theorem Zs.mono {m n k l : Nat} {r : Rat} (h : Zs m n r) (h1 : m ≤ k) (h2 : n ≤ l) : Zs k l r := ⟨h.num.mono h1, Nat.lt_of_lt_of_le h.den (p2_mono h2)⟩
theorem Zs.dn {m n : Nat} {r : Rat} (h : Zs m n r) : IS n (r.den : Int) := h.den
theorem Zs.divInt {m n : Nat} {a b : Int} (h : IS m a) (g : IS n b) (hb : b ≠ 0) : Zs m n (Rat.divInt a b) := by
  have hg : 0 < Int.gcd b a := Int.gcd_pos_of_ne_zero_left _ hb
  refine ⟨?_, ?_⟩
  · rw [Rat.num_divInt]
    unfold IS
    refine Nat.lt_of_le_of_lt ?_ h
    have h1 : (b.sign * a / (Int.gcd b a : Int)).natAbs ≤ (b.sign * a).natAbs := by
      rw [Int.natAbs_ediv_of_dvd (Int.dvd_trans (Int.gcd_dvd_right b a) (Int.dvd_mul_left _ _))]
      exact Nat.div_le_self _ _
    have h2 : (b.sign * a).natAbs = a.natAbs := by
      rw [Int.natAbs_mul, Int.natAbs_sign_of_ne_zero hb, Nat.one_mul]
    omega
  · rw [Rat.den_divInt, if_neg hb]
    exact Nat.lt_of_le_of_lt (Nat.div_le_self _ _) g
theorem Zs.add {m n k l j : Nat} {a b : Rat} (h : Zs m n a) (g : Zs k l b) (h1 : m + l ≤ j) (h2 : k + n ≤ j) : Zs (j + 1) (n + l) (a + b) := by
  rw [rat_add]
  exact Zs.divInt (((h.num.mul g.dn).mono h1).add ((g.num.mul h.dn).mono h2)) (h.dn.mul g.dn) (dn00 _ _)
theorem Zs.sub {m n k l j : Nat} {a b : Rat} (h : Zs m n a) (g : Zs k l b) (h1 : m + l ≤ j) (h2 : k + n ≤ j) : Zs (j + 1) (n + l) (a - b) := by
  rw [rat_sub]
  exact Zs.divInt (((h.num.mul g.dn).mono h1).sub ((g.num.mul h.dn).mono h2)) (h.dn.mul g.dn) (dn00 _ _)
theorem Zs.mul {m n k l : Nat} {a b : Rat} (h : Zs m n a) (g : Zs k l b) : Zs (m + k) (n + l) (a * b) := by
  rw [rat_mul]
  exact Zs.divInt (h.num.mul g.num) (h.dn.mul g.dn) (dn00 _ _)
theorem Zs.div {m n k l : Nat} {a b : Rat} (h : Zs m n a) (g : Zs k l b) (hb : b ≠ 0) : Zs (m + l) (n + k) (a / b) := by
  rw [rat_div]
  exact Zs.divInt (h.num.mul g.dn) (h.dn.mul g.num) (Int.mul_ne_zero (dn0 a) (num0 hb))
theorem Zs.neg {m n : Nat} {a : Rat} (h : Zs m n a) : Zs m n (-a) := ⟨by rw [Rat.neg_num]; exact h.num.neg, by rw [Rat.neg_den]; exact h.den⟩
/-- a fraction of small whole numbers, as it is written in a list -/
theorem enc_lit {p q : Int} {r : Rat} (h1 : r.num = p) (h2 : (r.den : Int) = q) : A.tup [.int p, .int q] = enc r := by
  unfold enc
  rw [h1, h2]
/-! ### the draws -/
theorem G_size_eq {rest : W} {k : Nat} {w : W} (h : Well rest k w) (hk : k < 90000) : ∃ r w', G__law_size [.cell 0] w = some (enc r, w') ∧ 0 < r ∧ Zs 4 3 r ∧ Well rest (k + 3) w' := by
  obtain ⟨d, w1, e1, d0, d1, l1⟩ := G_draw_eq h (by omega) (m := 4) (by omega) (by omega)
  by_cases c : d < 3
  · obtain ⟨a, w2, e2, hm, l2⟩ := G_pick_eq l1 (by omega) [.tup [.int 1, .int 1], .tup [.int 1, .int 2], .tup [.int 2, .int 1], .tup [.int 3, .int 2], .tup [.int 1, .int 4], .tup [.int 3, .int 4], .tup [.int 3, .int 1], .tup [.int 4, .int 1]] (by simp) (by simp)
    have lit : ∃ r, a = enc r ∧ 0 < r ∧ Zs 4 3 r := by
      simp only [List.mem_cons, List.not_mem_nil, or_false] at hm
      rcases hm with rfl | rfl | rfl | rfl | rfl | rfl | rfl | rfl
      · exact ⟨1, rfl, by decide +kernel, show (1 : Rat).num.natAbs < 2 ^ 4 by decide +kernel, by decide +kernel⟩
      · exact ⟨1 / 2, enc_lit (by decide +kernel) (by decide +kernel), by decide +kernel, show (1 / 2 : Rat).num.natAbs < 2 ^ 4 by decide +kernel, by decide +kernel⟩
      · exact ⟨2, rfl, by decide +kernel, show (2 : Rat).num.natAbs < 2 ^ 4 by decide +kernel, by decide +kernel⟩
      · exact ⟨3 / 2, enc_lit (by decide +kernel) (by decide +kernel), by decide +kernel, show (3 / 2 : Rat).num.natAbs < 2 ^ 4 by decide +kernel, by decide +kernel⟩
      · exact ⟨1 / 4, enc_lit (by decide +kernel) (by decide +kernel), by decide +kernel, show (1 / 4 : Rat).num.natAbs < 2 ^ 4 by decide +kernel, by decide +kernel⟩
      · exact ⟨3 / 4, enc_lit (by decide +kernel) (by decide +kernel), by decide +kernel, show (3 / 4 : Rat).num.natAbs < 2 ^ 4 by decide +kernel, by decide +kernel⟩
      · exact ⟨3, rfl, by decide +kernel, show (3 : Rat).num.natAbs < 2 ^ 4 by decide +kernel, by decide +kernel⟩
      · exact ⟨4, rfl, by decide +kernel, show (4 : Rat).num.natAbs < 2 ^ 4 by decide +kernel, by decide +kernel⟩
    obtain ⟨r, rfl, r0, rz⟩ := lit
    exact ⟨r, w2, by simp [G__law_size, B__law_size, e1, c, e2], r0, rz, l2.mono (by omega)⟩
  · obtain ⟨x, w2, e2, x0, x1, l2⟩ := G_draw_eq l1 (by omega) (m := 9) (by omega) (by omega)
    obtain ⟨y, w3, e3, y0, y1, l3⟩ := G_draw_eq l2 (by omega) (m := 5) (by omega) (by omega)
    have ix : IS 4 (1 + x) := is_small (by omega)
    have iy : IS 3 (1 + y) := is_small (by omega)
    have e4 := G__law_ratio_eq (w := w3) ix (iy.mono (n := 4) (by omega)) (by omega) (by omega)
    refine ⟨Rat.divInt (1 + x) (1 + y), w3, by simp [G__law_size, B__law_size, e1, c, e2, e3, e4], ?_, Zs.divInt ix iy (by omega), l3.mono (by omega)⟩
    have : (0 : Int) < 1 + y := by omega
    have h1 := (Rat.divInt_nonneg_iff_of_pos_right (a := 1 + x) this).mpr (by omega)
    have h2 : Rat.divInt (1 + x) (1 + y) ≠ 0 := fun z => by
      rw [Rat.divInt_eq_div] at z
      have n1 : ((1 + x : Int) : Rat) ≠ 0 := fun q => by
        have := Rat.intCast_eq_zero_iff.mp q
        omega
      have n2 : ((1 + y : Int) : Rat) ≠ 0 := fun q => by
        have := Rat.intCast_eq_zero_iff.mp q
        omega
      grind
    grind
theorem zl {m n : Nat} {r : Rat} (h1 : decide (r.num.natAbs < 2 ^ m) = true) (h2 : decide (r.den < 2 ^ n) = true) : Zs m n r := ⟨(of_decide_eq_true h1 : r.num.natAbs < 2 ^ m), of_decide_eq_true h2⟩
theorem G_slack_eq {rest : W} {k : Nat} {w : W} (h : Well rest k w) (hk : k < 90000) : ∃ r w', G__law_slack [.cell 0] w = some (enc r, w') ∧ 0 ≤ r ∧ Zs 2 3 r ∧ Well rest (k + 1) w' := by
  obtain ⟨a, w2, e2, hm, l2⟩ := G_pick_eq h (by omega) [.tup [.int 0, .int 1], .tup [.int 0, .int 1], .tup [.int 1, .int 4], .tup [.int 1, .int 2], .tup [.int 1, .int 1], .tup [.int 2, .int 1], .tup [.int 1, .int 3]] (by simp) (by simp)
  have lit : ∃ r, a = enc r ∧ 0 ≤ r ∧ Zs 2 3 r := by
    simp only [List.mem_cons, List.not_mem_nil, or_false] at hm
    rcases hm with rfl | rfl | rfl | rfl | rfl | rfl | rfl
    · exact ⟨0, rfl, by decide +kernel, zl (by decide +kernel) (by decide +kernel)⟩
    · exact ⟨0, rfl, by decide +kernel, zl (by decide +kernel) (by decide +kernel)⟩
    · exact ⟨1 / 4, enc_lit (by decide +kernel) (by decide +kernel), by decide +kernel, zl (by decide +kernel) (by decide +kernel)⟩
    · exact ⟨1 / 2, enc_lit (by decide +kernel) (by decide +kernel), by decide +kernel, zl (by decide +kernel) (by decide +kernel)⟩
    · exact ⟨1, rfl, by decide +kernel, zl (by decide +kernel) (by decide +kernel)⟩
    · exact ⟨2, rfl, by decide +kernel, zl (by decide +kernel) (by decide +kernel)⟩
    · exact ⟨1 / 3, enc_lit (by decide +kernel) (by decide +kernel), by decide +kernel, zl (by decide +kernel) (by decide +kernel)⟩
  obtain ⟨r, rfl, r0, rz⟩ := lit
  exact ⟨r, w2, by simp [G__law_slack, B__law_slack, e2], r0, rz, l2⟩
theorem G_part_eq {rest : W} {k : Nat} {w : W} (h : Well rest k w) (hk : k < 80000) : ∃ r w', G__law_part [.cell 0] w = some (enc r, w') ∧ Zs 4 3 r ∧ Well rest (k + 5) w' := by
  obtain ⟨a, w1, e1, hm, l1⟩ := G_pick_eq h (by omega) [.tup [.int 0, .int 1], .tup [.int 1, .int 1], .tup [.int 1, .int 2], .tup [.int 2, .int 1], .non, .non, .non] (by simp) (by simp)
  have mid : ∃ r w2, (xIf (xT (xUn fIsN (xVar 1))) (xCall G__law_size (xConsA (xVar 0) (xNilA))) (xVar 1)) [some (.cell 0), some a] w1 = some (enc r, w2) ∧ Zs 4 3 r ∧ Well rest (k + 4) w2 := by
    simp only [List.mem_cons, List.not_mem_nil, or_false] at hm
    rcases hm with rfl | rfl | rfl | rfl | rfl | rfl | rfl
    · exact ⟨0, w1, rfl, zl (by decide +kernel) (by decide +kernel), l1.mono (by omega)⟩
    · exact ⟨1, w1, rfl, zl (by decide +kernel) (by decide +kernel), l1.mono (by omega)⟩
    · exact ⟨1 / 2, w1, by rw [← enc_lit (r := 1 / 2) (p := 1) (q := 2) (by decide +kernel) (by decide +kernel)]; rfl, zl (by decide +kernel) (by decide +kernel), l1.mono (by omega)⟩
    · exact ⟨2, w1, rfl, zl (by decide +kernel) (by decide +kernel), l1.mono (by omega)⟩
    all_goals
      obtain ⟨r, w2, e2, _, rz, l2⟩ := G_size_eq l1 (by omega)
      exact ⟨r, w2, by simp [e2], rz, l2.mono (by omega)⟩
  obtain ⟨r, w2, e2, rz, l2⟩ := mid
  obtain ⟨d, w3, e3, d0, d1, l3⟩ := G_draw_eq l2 (by omega) (m := 5) (by omega) (by omega)
  have g : fIx (enc r) (.int 0) = some (.int r.num) ∧ fIx (enc r) (.int 1) = some (.int r.den) := ⟨rfl, rfl⟩
  by_cases c : d < 3
  · refine ⟨r, w3, ?_, rz, l3⟩
    simp [G__law_part, B__law_part, e1, -xIf, e2]
    simp [e3, c]
  · refine ⟨-r, w3, ?_, rz.neg, l3⟩
    simp [G__law_part, B__law_part, e1, -xIf, e2]
    simp [e3, c, -fIx, g, enc_neg]
structure Jet where
  s : Rat
  q : Rat
def encJ (j : Jet) : A := .tup [enc j.s, enc j.q]
structure JetOk (j : Jet) : Prop where
  s : Zs 4 3 j.s
  q : Zs 4 3 j.q
  q0 : 0 < j.q
theorem G_jet_eq {rest : W} {k : Nat} {w : W} (h : Well rest k w) (hk : k < 70000) : ∃ j w', G__law_jet [.cell 0] w = some (encJ j, w') ∧ JetOk j ∧ Well rest (k + 10) w' := by
  obtain ⟨d, w1, e1, d0, d1, l1⟩ := G_draw_eq h (by omega) (m := 4) (by omega) (by omega)
  by_cases c : d < 2
  · obtain ⟨a, w2, e2, hm, l2⟩ := G_pick_eq l1 (by omega) [.tup [.tup [.int 1, .int 1], .tup [.int 1, .int 4]], .tup [.tup [.int 1, .int 1], .tup [.int 1, .int 2]], .tup [.tup [.int 2, .int 1], .tup [.int 1, .int 1]], .tup [.tup [.int 0, .int 1], .tup [.int 1, .int 4]], .tup [.tup [.int 2, .int 1], .tup [.int 5, .int 4]]] (by simp) (by simp)
    have lit : ∃ j, a = encJ j ∧ JetOk j := by
      have q4 : A.tup [.int 1, .int 4] = enc (1 / 4) := enc_lit (by decide +kernel) (by decide +kernel)
      have q2 : A.tup [.int 1, .int 2] = enc (1 / 2) := enc_lit (by decide +kernel) (by decide +kernel)
      have q5 : A.tup [.int 5, .int 4] = enc (5 / 4) := enc_lit (by decide +kernel) (by decide +kernel)
      simp only [List.mem_cons, List.not_mem_nil, or_false] at hm
      rcases hm with rfl | rfl | rfl | rfl | rfl
      · exact ⟨⟨1, 1 / 4⟩, by rw [q4]; rfl, zl (by decide +kernel) (by decide +kernel), zl (by decide +kernel) (by decide +kernel), by decide +kernel⟩
      · exact ⟨⟨1, 1 / 2⟩, by rw [q2]; rfl, zl (by decide +kernel) (by decide +kernel), zl (by decide +kernel) (by decide +kernel), by decide +kernel⟩
      · exact ⟨⟨2, 1⟩, rfl, zl (by decide +kernel) (by decide +kernel), zl (by decide +kernel) (by decide +kernel), by decide +kernel⟩
      · exact ⟨⟨0, 1 / 4⟩, by rw [q4]; rfl, zl (by decide +kernel) (by decide +kernel), zl (by decide +kernel) (by decide +kernel), by decide +kernel⟩
      · exact ⟨⟨2, 5 / 4⟩, by rw [q5]; rfl, zl (by decide +kernel) (by decide +kernel), zl (by decide +kernel) (by decide +kernel), by decide +kernel⟩
    obtain ⟨j, rfl, jo⟩ := lit
    exact ⟨j, w2, by simp [G__law_jet, B__law_jet, e1, c, e2], jo, l2.mono (by omega)⟩
  · obtain ⟨s, w2, e2, sz, l2⟩ := G_part_eq l1 (by omega)
    obtain ⟨q, w3, e3, q0, qz, l3⟩ := G_size_eq l2 (by omega)
    exact ⟨⟨s, q⟩, w3, by simp [G__law_jet, B__law_jet, e1, c, e2, e3, encJ], ⟨sz, qz, q0⟩, l3.mono (by omega)⟩
end
end Sp
/-! DR 2: places, asks. -/
namespace Sp
noncomputable section
theorem gcdAll3 (a b c : Int) : gcdAll [a, b, c] = Nat.gcd (Nat.gcd a.natAbs b.natAbs) c.natAbs := by
  simp [gcdAll]
def mkPl (x y : Rat) : Pl :=
  let g : Int := (gcdAll [x.num * y.den, y.num * x.den, x.den * y.den] : Nat)
  ⟨x.num * y.den / g, y.num * x.den / g, x.den * y.den / g, x, y⟩
theorem divInt_div {a b g : Int} (hg : 0 < g) (ha : g ∣ a) (hb : g ∣ b) (h0 : b ≠ 0) : Rat.divInt (a / g) (b / g) = Rat.divInt a b := by
  obtain ⟨u, rfl⟩ := ha
  obtain ⟨v, rfl⟩ := hb
  rw [Int.mul_ediv_cancel_left _ (by omega), Int.mul_ediv_cancel_left _ (by omega)]
  have v0 : v ≠ 0 := fun z => h0 (by rw [z, Int.mul_zero])
  rw [Rat.divInt_eq_divInt_iff v0 h0]
  rw [Int.mul_comm g v, Int.mul_comm g u, Int.mul_assoc, Int.mul_comm v g]
theorem is_div {n : Nat} {a g : Int} (h : IS n a) (hg : 0 < g) (hd : g ∣ a) : IS n (a / g) := by
  unfold IS at *
  rw [Int.natAbs_ediv_of_dvd hd]
  exact Nat.lt_of_le_of_lt (Nat.div_le_self _ _) h
theorem mkPl_ok {x y : Rat} (hx : Sz 40 x) (hy : Sz 40 y) (x0 : 0 < x) : PlOk (mkPl x y) := by
  have dx := x.den_pos
  have dy := y.den_pos
  have r0 : (0 : Int) < x.den * y.den := Int.mul_pos (by omega) (by omega)
  have ga := gcdAll3 (x.num * y.den) (y.num * x.den) (x.den * y.den)
  unfold mkPl
  have a1 : Nat.gcd (Nat.gcd (x.num * y.den).natAbs (y.num * x.den).natAbs) ((x.den : Int) * y.den).natAbs ∣ (x.num * y.den).natAbs := Nat.dvd_trans (Nat.gcd_dvd_left _ _) (Nat.gcd_dvd_left _ _)
  have a2 : Nat.gcd (Nat.gcd (x.num * y.den).natAbs (y.num * x.den).natAbs) ((x.den : Int) * y.den).natAbs ∣ (y.num * x.den).natAbs := Nat.dvd_trans (Nat.gcd_dvd_left _ _) (Nat.gcd_dvd_right _ _)
  have a3 : Nat.gcd (Nat.gcd (x.num * y.den).natAbs (y.num * x.den).natAbs) ((x.den : Int) * y.den).natAbs ∣ ((x.den : Int) * y.den).natAbs := Nat.gcd_dvd_right _ _
  have i1 : IS 80 (x.num * y.den) := hx.num.mul hy.dn
  have i2 : IS 80 (y.num * x.den) := hy.num.mul hx.dn
  have i3 : IS 80 ((x.den : Int) * y.den) := hx.dn.mul hy.dn
  have e1 : Rat.divInt (x.num * y.den) (x.den * y.den) = x := by
    have : Rat.divInt (x.num * y.den) (x.den * y.den) = Rat.divInt x.num x.den := by
      rw [Rat.divInt_eq_divInt_iff (dn00 x y) (dn0 x)]
      rw [Int.mul_assoc, Int.mul_comm (y.den : Int) x.den]
    rw [this, Rat.num_divInt_den]
  have e2 : Rat.divInt (y.num * x.den) (x.den * y.den) = y := by
    have : Rat.divInt (y.num * x.den) (x.den * y.den) = Rat.divInt y.num y.den := by
      rw [Rat.divInt_eq_divInt_iff (dn00 x y) (dn0 y)]
      rw [Int.mul_assoc]
    rw [this, Rat.num_divInt_den]
  rw [← ga] at a1 a2 a3
  generalize hp : x.num * y.den = p at *
  generalize hq : y.num * x.den = q at *
  generalize hr : (x.den : Int) * y.den = r at *
  have g0 : 0 < gcdAll [p, q, r] := by
    rw [ga]
    exact Nat.gcd_pos_of_pos_right _ (by omega)
  generalize hg : gcdAll [p, q, r] = g at *
  have gi : (0 : Int) < (g : Int) := by omega
  have d1 : (g : Int) ∣ p := Int.ofNat_dvd_left.mpr a1
  have d2 : (g : Int) ∣ q := Int.ofNat_dvd_left.mpr a2
  have d3 : (g : Int) ∣ r := Int.ofNat_dvd_left.mpr a3
  refine ⟨?_, ?_, ?_, x0, hx, hy, (is_div i1 gi d1).mono (by omega), (is_div i2 gi d2).mono (by omega), (is_div i3 gi d3).mono (by omega), ?_⟩
  · exact Int.ediv_pos_of_pos_of_dvd r0 (by omega) d3
  · exact (divInt_div gi d1 d3 (by omega)).trans e1
  · exact (divInt_div gi d2 d3 (by omega)).trans e2
  · show gcdAll [p / g, q / g, r / g] = 1
    rw [gcdAll3, Int.natAbs_ediv_of_dvd d1, Int.natAbs_ediv_of_dvd d2, Int.natAbs_ediv_of_dvd d3, Int.natAbs_natCast, Nat.gcd_div a1 a2, Nat.gcd_div (Nat.dvd_gcd a1 a2) a3, ← ga, Nat.div_self g0]
theorem G_place_eq {x y : Rat} (hx : Sz 40 x) (hy : Sz 40 y) (w : W) : G__law_place [enc x, enc y] w = some (encPl (mkPl x y), w) := by
  have dx := x.den_pos
  have dy := y.den_pos
  have r0 : (0 : Int) < x.den * y.den := Int.mul_pos (by omega) (by omega)
  have i1 : IS 80 (x.num * y.den) := hx.num.mul hy.dn
  have i2 : IS 80 (y.num * x.den) := hy.num.mul hx.dn
  have i3 : IS 80 ((x.den : Int) * y.den) := hx.dn.mul hy.dn
  have g0 : 0 < gcdAll [x.num * y.den, y.num * x.den, x.den * y.den] := by
    rw [gcdAll3]
    exact Nat.gcd_pos_of_pos_right _ (by omega)
  have gs : (gcdAll [x.num * y.den, y.num * x.den, x.den * y.den]).log2 < 9000 := by
    have h1 : gcdAll [x.num * y.den, y.num * x.den, x.den * y.den] ≤ ((x.den : Int) * y.den).natAbs := by
      rw [gcdAll3]
      exact Nat.le_of_dvd (by omega) (Nat.gcd_dvd_right _ _)
    have h2 := log2_le (n := 80) (Nat.lt_of_le_of_lt h1 i3)
    omega
  have e := G__law_lean_eq (n := 80) [x.num * y.den, y.num * x.den, x.den * y.den] w (by
    intro i hi
    simp only [List.mem_cons, List.not_mem_nil, or_false] at hi
    rcases hi with rfl | rfl | rfl <;> assumption) (by omega) (by simp) g0 gs
  have m1 := mulOk_of hx.num hy.dn (by omega)
  have m2 := mulOk_of hy.num hx.dn (by omega)
  have m3 := mulOk_of hx.dn hy.dn (by omega)
  have e2 : G__law_lean [.tup [.int (x.num * y.den), .int (y.num * x.den), .int (x.den * y.den)]] w = some (encPl (mkPl x y), w) := e
  have g : ∀ r : Rat, fIx (enc r) (.int 0) = some (.int r.num) ∧ fIx (enc r) (.int 1) = some (.int r.den) := fun r => ⟨rfl, rfl⟩
  simp [G__law_place, B__law_place, -fIx, g, m1, m2, m3, e2]
theorem G_high_eq {j : Jet} (hj : JetOk j) {x : Rat} {m n : Nat} (hx : Zs m n x) (h1 : m ≤ 100) (h2 : n ≤ 100) (w : W) : G__law_high [encJ j, enc x] w = some (enc (x * (j.s - j.q * x)), w) := by
  have s1 := hj.s.sz (k := 4) (by omega) (by omega)
  have q1 := hj.q.sz (k := 4) (by omega) (by omega)
  have x1 := hx.sz (k := 100) h1 h2
  have e1 := G__law_times_eq (w := w) q1 x1 (by omega)
  have e2 := G__law_less_eq (w := w) s1 (q1.mul x1) (by omega)
  have e3 := G__law_times_eq (w := w) x1 (s1.sub (q1.mul x1)) (by omega)
  have g : fIx (encJ j) (.int 0) = some (enc j.s) ∧ fIx (encJ j) (.int 1) = some (enc j.q) := ⟨rfl, rfl⟩
  simp [G__law_high, B__law_high, -fIx, g, e1, e2, e3]
theorem G_steep_law {j : Jet} (hj : JetOk j) {x : Rat} {m n : Nat} (hx : Zs m n x) (h1 : m ≤ 100) (h2 : n ≤ 100) (w : W) : G__law_steep [encJ j, enc x] w = some (enc (j.s - 2 * (j.q * x)), w) := by
  have s1 := hj.s.sz (k := 4) (by omega) (by omega)
  have q1 := hj.q.sz (k := 4) (by omega) (by omega)
  have x1 := hx.sz (k := 100) h1 h2
  have e1 := G__law_times_eq (w := w) q1 x1 (by omega)
  have e2 := G__law_times_eq (w := w) sz2 (q1.mul x1) (by omega)
  have e3 := G__law_less_eq (w := w) s1 (sz2.mul (q1.mul x1)) (by omega)
  have g : fIx (encJ j) (.int 0) = some (enc j.s) ∧ fIx (encJ j) (.int 1) = some (enc j.q) := ⟨rfl, rfl⟩
  simp [G__law_steep, B__law_steep, -fIx, g, c21, e1, e2, e3]
end
end Sp
/-! DR 3: the asks that are drawn. -/
namespace Sp
noncomputable section
theorem z2 : Zs 2 1 (2 : Rat) := zl (by decide +kernel) (by decide +kernel)
theorem z4 : Zs 3 1 (4 : Rat) := zl (by decide +kernel) (by decide +kernel)
def highOf (j : Jet) (x : Rat) : Rat := x * (j.s - j.q * x)
theorem high_zs {j : Jet} (hj : JetOk j) {x : Rat} {m n : Nat} (hx : Zs m n x) : Zs (m + (max (4 + (3 + n)) ((4 + m) + 3) + 1)) (n + (3 + (3 + n))) (highOf j x) := hx.mul (hj.s.sub (hj.q.mul hx) (Nat.le_max_left _ _) (Nat.le_max_right _ _))
theorem G_roof_near_eq {rest : W} {k : Nat} {w : W} (h : Well rest k w) (hk : k < 60000) {j : Jet} (hj : JetOk j) : ∃ a w', G__law_roof_near [.cell 0, encJ j] w = some (encAsk a, w') ∧ AskOk a ∧ Well rest (k + 10) w' := by
  obtain ⟨a, w1, e1, a0, az, l1⟩ := G_size_eq h (by omega)
  obtain ⟨m, w2, e2, m0, mz, l2⟩ := G_size_eq l1 (by omega)
  obtain ⟨s, w3, e3, s0, sz, l3⟩ := G_slack_eq l2 (by omega)
  have q0 := hj.q0
  have bz : Zs 8 6 (a + m) := az.add mz (j := 7) (by omega) (by omega)
  have rz : Zs 13 12 (j.q * (m * m) / 4) := (hj.q.mul (mz.mul mz)).div z4 (by decide) |>.mono (by omega) (by omega)
  have oz : Zs 17 15 (j.q * (m * m) / 4 + s) := rz.add sz (j := 16) (by omega) (by omega)
  have ha : Zs 16 12 (highOf j a) := (high_zs hj az).mono (by decide) (by decide)
  have hb : Zs 24 18 (highOf j (a + m)) := (high_zs hj bz).mono (by decide) (by decide)
  have y1 : Zs 32 27 (highOf j a + (j.q * (m * m) / 4 + s)) := ha.add oz (j := 31) (by omega) (by omega)
  have y2 : Zs 40 33 (highOf j (a + m) + (j.q * (m * m) / 4 + s)) := hb.add oz (j := 39) (by omega) (by omega)
  have f1 := G__law_plus_eq (w := w3) (az.sz (k := 4) (by omega) (by omega)) (mz.sz (k := 4) (by omega) (by omega)) (by omega)
  have f2 := G__law_times_eq (w := w3) (mz.sz (k := 4) (by omega) (by omega)) (mz.sz (k := 4) (by omega) (by omega)) (by omega)
  have f3 := G__law_times_eq (w := w3) (hj.q.sz (k := 4) (by omega) (by omega)) ((mz.mul mz).sz (k := 8) (by omega) (by omega)) (by omega)
  have f4 := G__law_over_eq (w := w3) ((hj.q.mul (mz.mul mz)).sz (k := 20) (by omega) (by omega)) sz4 (by decide) (by omega)
  have f5 := G__law_plus_eq (w := w3) (rz.sz (k := 20) (by omega) (by omega)) (sz.sz (k := 4) (by omega) (by omega)) (by omega)
  have f6 := G_high_eq hj az (by omega) (by omega) w3
  have f7 := G_high_eq hj bz (by omega) (by omega) w3
  have f8 := G__law_plus_eq (w := w3) (ha.sz (k := 20) (by omega) (by omega)) (oz.sz (k := 20) (by omega) (by omega)) (by omega)
  have f9 := G__law_plus_eq (w := w3) (hb.sz (k := 30) (by omega) (by omega)) (oz.sz (k := 20) (by omega) (by omega)) (by omega)
  have f10 := G_place_eq (az.sz (k := 40) (by omega) (by omega)) (y1.sz (k := 40) (by omega) (by omega)) w3
  have f11 := G_place_eq (bz.sz (k := 40) (by omega) (by omega)) (y2.sz (k := 40) (by omega) (by omega)) w3
  unfold highOf at *
  have g : fIx (encJ j) (.int 1) = some (enc j.q) := rfl
  refine ⟨.roof (mkPl a _) (mkPl (a + m) _), w3, ?_, ⟨mkPl_ok (az.sz (k := 40) (by omega) (by omega)) (y1.sz (k := 40) (by omega) (by omega)) a0, mkPl_ok (bz.sz (k := 40) (by omega) (by omega)) (y2.sz (k := 40) (by omega) (by omega)) (by grind), ?_⟩, l3.mono (by omega)⟩
  · simp [G__law_roof_near, B__law_roof_near, e1, e2, e3, f1, -fIx, g, f2, f3, c41, f4, f5, f6, f7, f8, f9, f10, f11, encAsk]
  · show a < a + m
    grind
theorem G_near_eq {rest : W} {k : Nat} {w : W} (h : Well rest k w) (hk : k < 50000) {j : Jet} (hj : JetOk j) : ∃ a w', G__law_near_ask [.cell 0, encJ j] w = some (encAsk a, w') ∧ AskOk a ∧ Well rest (k + 20) w' := by
  obtain ⟨d, w1, e1, d0, d1, l1⟩ := G_draw_eq h (by omega) (m := 11) (by omega) (by omega)
  obtain ⟨x, w2, e2, x0, xz, l2⟩ := G_size_eq l1 (by omega)
  obtain ⟨s, w3, e3, s0, sz, l3⟩ := G_slack_eq l2 (by omega)
  have q0 := hj.q0
  have hx : Zs 16 12 (highOf j x) := (high_zs hj xz).mono (by decide) (by decide)
  have tx : Zs 14 10 (j.s - 2 * (j.q * x)) := hj.s.sub (z2.mul (hj.q.mul xz)) (j := 13) (by omega) (by omega)
  have f1 : G__law_high [encJ j, enc x] w3 = some (enc (highOf j x), w3) := G_high_eq hj xz (by omega) (by omega) w3
  have f2 := G_steep_law hj xz (by omega) (by omega) w3
  have pre : xPar3 3 4 5 (xConsA (xCall G__law_draw (xConsA (xVar 0) (xConsA (xC (.int 11)) (xNilA)))) (xConsA (xCall G__law_size (xConsA (xVar 0) (xNilA))) (xConsA (xCall G__law_slack (xConsA (xVar 0) (xNilA))) (xNilA)))) [some (.cell 0), some (encJ j), none, none, none, none, none, none, none, none] w = some (.nx [some (.cell 0), some (encJ j), none, some (.int d), some (enc x), some (enc s), none, none, none, none] w3) := by simp [e1, e2, e3]
  have pre2 : xPar2 6 7 (xConsA (xCall G__law_high (xConsA (xVar 1) (xConsA (xVar 4) (xNilA)))) (xConsA (xCall G__law_steep (xConsA (xVar 1) (xConsA (xVar 4) (xNilA)))) (xNilA))) [some (.cell 0), some (encJ j), none, some (.int d), some (enc x), some (enc s), none, none, none, none] w3 = some (.nx [some (.cell 0), some (encJ j), none, some (.int d), some (enc x), some (enc s), some (enc (highOf j x)), some (enc (j.s - 2 * (j.q * x))), none, none] w3) := by simp [f1, f2]
  have run : G__law_near_ask [.cell 0, encJ j] w = xDef.xRun (B__law_near_ask [some (.cell 0), some (encJ j), none, none, none, none, none, none, none, none] w) := (xDef_eq (n := 2) (as := [_, _]) rfl)
  rw [run]
  unfold B__law_near_ask
  rw [xSeq_eq pre, xSeq_eq pre2]
  have gj : fIx (encJ j) (.int 0) = some (enc j.s) ∧ fIx (encJ j) (.int 1) = some (enc j.q) := ⟨rfl, rfl⟩
  have gn : ∀ r : Rat, fIx (enc r) (.int 0) = some (.int r.num) := fun _ => rfl
  have xs := xz.sz (k := 40) (by omega) (by omega)
  have ss := sz.sz (k := 4) (by omega) (by omega)
  by_cases c1 : d < 3
  · have yz : Zs 20 15 (highOf j x - s) := hx.sub sz (j := 19) (by omega) (by omega)
    have k1 := G__law_less_eq (w := w3) (hx.sz (k := 20) (by omega) (by omega)) ss (by omega)
    have k2 := G_place_eq xs (yz.sz (k := 40) (by omega) (by omega)) w3
    exact ⟨.over (mkPl x (highOf j x - s)), w3, by simp [c1, k1, k2, encAsk], mkPl_ok xs (yz.sz (by omega) (by omega)) x0, l3.mono (by omega)⟩
  · by_cases c2 : d < 5
    · have yz : Zs 20 15 (highOf j x + s) := hx.add sz (j := 19) (by omega) (by omega)
      have k1 := G__law_plus_eq (w := w3) (hx.sz (k := 20) (by omega) (by omega)) ss (by omega)
      have k2 := G_place_eq xs (yz.sz (k := 40) (by omega) (by omega)) w3
      exact ⟨.under (mkPl x (highOf j x + s)), w3, by simp [c1, c2, k1, k2, encAsk], mkPl_ok xs (yz.sz (by omega) (by omega)) x0, l3.mono (by omega)⟩
    · by_cases c3 : d = 5
      · obtain ⟨a, w4, k1, ok, l4⟩ := G_roof_near_eq l3 (by omega) hj
        exact ⟨a, w4, by simp [c3, k1], ok, l4.mono (by omega)⟩
      · by_cases c4 : d = 6
        · have tz : Zs 12 13 (j.s * j.s / (4 * j.q)) := ((hj.s.mul hj.s).div (z4.mul hj.q) (by grind)).mono (by omega) (by omega)
          have lz : Zs 16 16 (j.s * j.s / (4 * j.q) + s) := tz.add sz (j := 15) (by omega) (by omega)
          have k1 := G__law_times_eq (w := w3) (hj.s.sz (k := 4) (by omega) (by omega)) (hj.s.sz (k := 4) (by omega) (by omega)) (by omega)
          have k2 := G__law_times_eq (w := w3) sz4 (hj.q.sz (k := 4) (by omega) (by omega)) (by omega)
          have k3 := G__law_over_eq (w := w3) ((hj.s.mul hj.s).sz (k := 8) (by omega) (by omega)) ((z4.mul hj.q).sz (k := 8) (by omega) (by omega)) (by grind) (by omega)
          have k4 := G__law_plus_eq (w := w3) (tz.sz (k := 20) (by omega) (by omega)) ss (by omega)
          by_cases c5 : 0 < j.s.num
          · have p0 := num_pos.mp c5
            have top : 0 < j.s * j.s / (4 * j.q) := by
              rw [Rat.div_def]
              exact Rat.mul_pos (Rat.mul_pos p0 p0) (Rat.inv_pos.mpr (by grind))
            exact ⟨.low (j.s * j.s / (4 * j.q) + s), w3, by simp [c4, -fIx, gj, gn, c41, k1, k2, k3, k4, c5, encAsk], ⟨lz.sz (by omega) (by omega), by grind⟩, l3.mono (by omega)⟩
          · exact ⟨.low x, w3, by simp [c4, -fIx, gj, gn, c41, k1, k2, k3, k4, c5, encAsk], ⟨xs, x0⟩, l3.mono (by omega)⟩
        · by_cases c5 : d < 9
          · obtain ⟨r, w4, r1, r2, r3, l4⟩ := G_draw_eq l3 (by omega) (m := 3) (by omega) (by omega)
            have mid : ∃ X T : Rat, (xIf (xT (xOp fEq (xCall G__law_draw (xConsA (xVar 0) (xConsA (xC (.int 3)) (xNilA)))) (xC (.int 0)))) (xTup (xConsA (xTup (xConsA (xC (.int 0)) (xConsA (xC (.int 1)) (xNilA)))) (xConsA (xOp fIx (xVar 1) (xC (.int 0))) (xNilA)))) (xTup (xConsA (xVar 4) (xConsA (xVar 7) (xNilA))))) [some (.cell 0), some (encJ j), none, some (.int d), some (enc x), some (enc s), some (enc (highOf j x)), some (enc (j.s - 2 * (j.q * x))), none, none] w3 = some (.tup [enc X, enc T], w4) ∧ 0 ≤ X ∧ Sz 40 X ∧ Zs 14 10 T := by
              by_cases c6 : r = 0
              · exact ⟨0, j.s, by simp [r1, c6, -fIx, gj, c01], Rat.le_refl, sz0.mono (by omega), hj.s.mono (by omega) (by omega)⟩
              · exact ⟨x, j.s - 2 * (j.q * x), by simp [r1, c6], by grind, xs, tx⟩
            obtain ⟨X, T, m1, m2, m3, m4⟩ := mid
            have uz : Zs 18 13 (T + s) := m4.add sz (j := 17) (by omega) (by omega)
            have vz : Zs 18 13 (T - s) := m4.sub sz (j := 17) (by omega) (by omega)
            have k1 := G__law_plus_eq (w := w4) (m4.sz (k := 20) (by omega) (by omega)) ss (by omega)
            have k2 := G__law_less_eq (w := w4) (m4.sz (k := 20) (by omega) (by omega)) ss (by omega)
            by_cases c7 : d = 7
            · refine ⟨.dives X (T + s), w4, ?_, ⟨m3, uz.sz (by omega) (by omega), m2⟩, l4.mono (by omega)⟩
              subst c7
              simp [-xIf, m1]
              simp [k1, encAsk]
            · have c8 : d = 8 := by omega
              refine ⟨.climbs X (T - s), w4, ?_, ⟨m3, vz.sz (by omega) (by omega), m2⟩, l4.mono (by omega)⟩
              subst c8
              simp [-xIf, m1]
              simp [k1, k2, encAsk]
          · by_cases c6 : d = 9
            · have k1 := G__law_plus_eq (w := w3) (hj.q.sz (k := 4) (by omega) (by omega)) ss (by omega)
              have zz : Zs 8 6 (j.q + s) := hj.q.add sz (j := 7) (by omega) (by omega)
              exact ⟨.quick (j.q + s), w3, by simp [c6, -fIx, gj, k1, encAsk], ⟨zz.sz (by omega) (by omega), by grind⟩, l3.mono (by omega)⟩
            · have c7 : d = 10 := by omega
              have k1 := G__law_less_eq (w := w3) (hj.q.sz (k := 4) (by omega) (by omega)) ss (by omega)
              have zz : Zs 8 6 (j.q - s) := hj.q.sub sz (j := 7) (by omega) (by omega)
              by_cases c8 : 0 < (j.q - s).num
              · exact ⟨.slow (j.q - s), w3, by simp [c7, -fIx, gj, gn, k1, c8, encAsk], ⟨zz.sz (by omega) (by omega), num_pos.mp c8⟩, l3.mono (by omega)⟩
              · exact ⟨.slow j.q, w3, by simp [c7, -fIx, gj, gn, k1, c8, encAsk], ⟨hj.q.sz (by omega) (by omega), q0⟩, l3.mono (by omega)⟩
end
end Sp
/-! DR 4: the drawn world. -/
namespace Sp
noncomputable section
theorem asks_walk {j : Jet} (hj : JetOk j) (s2 s3 : Option A) : ∀ (xs : List A) (w : W) (k : Nat), Well [] k w → k + 20 * xs.length < 50000 → ∃ (as : List Ask) (w' : W), lcLoop (xName 4) xYes (xCall G__law_near_ask (xConsA (xVar 0) (xConsA (xVar 1) (xNilA)))) [some (.cell 0), some (encJ j), s2, s3, none] xs w = some (as.map encAsk, w') ∧ (∀ a ∈ as, AskOk a) ∧ as.length = xs.length ∧ Well [] (k + 20 * xs.length) w'
  | [], w, k, h, _ => ⟨[], w, by simp, fun _ z => (nomatch z), rfl, h.mono (by simp)⟩
  | x :: xs, w, k, h, hk => by
    simp only [List.length_cons] at hk
    obtain ⟨a, w1, e1, ok, l1⟩ := G_near_eq h (by omega) hj
    obtain ⟨as, w2, e2, oks, len, l2⟩ := asks_walk hj s2 s3 xs w1 (k + 20) l1 (by omega)
    refine ⟨a :: as, w2, ?_, fun b hb => ?_, by simp [len], l2.mono (by simp only [List.length_cons]; omega)⟩
    · rw [lcLoop]
      simp [-lcLoop, e1, e2]
    · rcases List.mem_cons.mp hb with rfl | hb
      · exact ok
      · exact oks b hb
theorem own_head {j : Jet} (hj : JetOk j) (w : W) : G__law_own_head [encJ j] w = some (enc ((1 + j.s * j.s) / (4 * j.q)), w) ∧ 0 < (1 + j.s * j.s) / (4 * j.q) ∧ Zs 14 14 ((1 + j.s * j.s) / (4 * j.q)) := by
  have q0 := hj.q0
  have s1 := hj.s.sz (k := 4) (by omega) (by omega)
  have q1 := hj.q.sz (k := 4) (by omega) (by omega)
  have o1 : Zs 1 1 (1 : Rat) := zl (by decide +kernel) (by decide +kernel)
  have e1 := G__law_times_eq (w := w) s1 s1 (by omega)
  have e2 := G__law_plus_eq (w := w) sz_one (s1.mul s1) (by omega)
  have e3 := G__law_times_eq (w := w) sz4 q1 (by omega)
  have n0 : 4 * j.q ≠ 0 := by grind
  have e4 := G__law_over_eq (w := w) (sz_one.add (s1.mul s1)) (sz4.mul q1) n0 (by omega)
  have g : fIx (encJ j) (.int 0) = some (enc j.s) ∧ fIx (encJ j) (.int 1) = some (enc j.q) := ⟨rfl, rfl⟩
  have az : Zs 10 7 (1 + j.s * j.s) := o1.add (hj.s.mul hj.s) (j := 9) (by omega) (by omega)
  refine ⟨by simp [G__law_own_head, B__law_own_head, -fIx, g, c11, c41, e1, e2, e3, e4], ?_, (az.div (z4.mul hj.q) n0).mono (by omega) (by omega)⟩
  have sq : 0 ≤ j.s * j.s := by
    rcases Rat.le_total (a := 0) (b := j.s) with z | z
    · exact Rat.mul_nonneg z z
    · have := Rat.mul_nonneg (a := -j.s) (b := -j.s) (by grind) (by grind)
      grind
  rw [Rat.div_def]
  exact Rat.mul_pos (by grind) (Rat.inv_pos.mpr (by grind))
theorem G_world_eq {k : Nat} {w : W} (h : Well [] k w) (hk : k < 10000) : ∃ (hd : Rat) (as : List Ask) (j : Jet) (w' : W), G__law_open_world [.cell 0] w = some (.tup [enc hd, .tup (as.map encAsk), encJ j], w') ∧ 0 < hd ∧ Sz 100 hd ∧ (∀ a ∈ as, AskOk a) ∧ as.length ≤ 3 ∧ JetOk j ∧ Well [] (k + 100) w' := by
  obtain ⟨j, w1, e1, hj, l1⟩ := G_jet_eq h (by omega)
  obtain ⟨a, w2, e2, hm, l2⟩ := G_pick_eq l1 (by omega) [.tup [.int 2, .int 1], .tup [.int 3, .int 2], .tup [.int 6, .int 5], .tup [.int 4, .int 1], .tup [.int 1, .int 1]] (by simp) (by simp)
  obtain ⟨o1, o2, o3⟩ := own_head hj w1
  have lit : ∃ r, a = enc r ∧ 0 < r ∧ Zs 3 3 r := by
    simp only [List.mem_cons, List.not_mem_nil, or_false] at hm
    rcases hm with rfl | rfl | rfl | rfl | rfl
    · exact ⟨2, rfl, by decide +kernel, zl (by decide +kernel) (by decide +kernel)⟩
    · exact ⟨3 / 2, enc_lit (by decide +kernel) (by decide +kernel), by decide +kernel, zl (by decide +kernel) (by decide +kernel)⟩
    · exact ⟨6 / 5, enc_lit (by decide +kernel) (by decide +kernel), by decide +kernel, zl (by decide +kernel) (by decide +kernel)⟩
    · exact ⟨4, rfl, by decide +kernel, zl (by decide +kernel) (by decide +kernel)⟩
    · exact ⟨1, rfl, by decide +kernel, zl (by decide +kernel) (by decide +kernel)⟩
  obtain ⟨r, rfl, r0, rz⟩ := lit
  have e3 := G__law_times_eq (w := w2) (o3.sz (k := 20) (by omega) (by omega)) (rz.sz (k := 4) (by omega) (by omega)) (by omega)
  obtain ⟨n, w3, e4, hn, l3⟩ := G_pick_eq l2 (by omega) [.int 0, .int 0, .int 0, .int 1, .int 1, .int 2, .int 3] (by simp) (by simp)
  have lit2 : ∃ m : Nat, n = .int m ∧ m ≤ 3 := by
    simp only [List.mem_cons, List.not_mem_nil, or_false] at hn
    rcases hn with rfl | rfl | rfl | rfl | rfl | rfl | rfl
    · exact ⟨0, rfl, by omega⟩
    · exact ⟨0, rfl, by omega⟩
    · exact ⟨0, rfl, by omega⟩
    · exact ⟨1, rfl, by omega⟩
    · exact ⟨1, rfl, by omega⟩
    · exact ⟨2, rfl, by omega⟩
    · exact ⟨3, rfl, by omega⟩
  obtain ⟨m, rfl, m3⟩ := lit2
  obtain ⟨as, w4, e5, oks, len, l4⟩ := asks_walk hj (some (enc ((1 + j.s * j.s) / (4 * j.q) * r))) none (nums 0 m) w3 _ l3 (by rw [nums_len]; omega)
  rw [nums_len] at len l4
  have ro : rngOk (m : Int) = true := sure_iff.mpr (by omega)
  have ml : (nums 0 m).length ≤ 10000 := by rw [nums_len]; omega
  refine ⟨(1 + j.s * j.s) / (4 * j.q) * r, as, j, w4, ?_, Rat.mul_pos o2 r0, (o3.mul rz).sz (by omega) (by omega), oks, by omega, hj, l4.mono (by omega)⟩
  simp [G__law_open_world, B__law_open_world, e1, o1, e2, e3, yRng1, e4, ro, -lcLoop, e5, ml]
theorem G_target_eq {k : Nat} {w : W} (h : Well [] k w) (hk : k < 20000) {j : Jet} (hj : JetOk j) : ∃ x y w', G__law_target [.cell 0, encJ j] w = some (encPl (mkPl x y), w') ∧ 0 < x ∧ Zs 4 3 x ∧ Sz 40 y ∧ Well [] (k + 20) w' := by
  obtain ⟨x, w1, e1, x0, xz, l1⟩ := G_size_eq h (by omega)
  obtain ⟨s, w2, e2, s0, sz, l2⟩ := G_slack_eq l1 (by omega)
  obtain ⟨d, w3, e3, d0, d1, l3⟩ := G_draw_eq l2 (by omega) (m := 6) (by omega) (by omega)
  obtain ⟨f, w4, e4, f0, f1, l4⟩ := G_draw_eq l3 (by omega) (m := 5) (by omega) (by omega)
  have hx : Zs 16 12 (highOf j x) := (high_zs hj xz).mono (by decide) (by decide)
  have k1 : G__law_high [encJ j, enc x] w3 = some (enc (highOf j x), w3) := G_high_eq hj xz (by omega) (by omega) w3
  have xs := xz.sz (k := 40) (by omega) (by omega)
  have ss := sz.sz (k := 4) (by omega) (by omega)
  have c40 : A.tup [.int 40, .int 1] = enc 40 := rfl
  have mid : ∃ t : Rat, (xIf (xT (xOp fEq (xCall G__law_draw (xConsA (xVar 0) (xConsA (xC (.int 5)) (xNilA)))) (xC (.int 0)))) (xTup (xConsA (xC (.int 40)) (xConsA (xC (.int 1)) (xNilA)))) (xTup (xConsA (xC (.int 0)) (xConsA (xC (.int 1)) (xNilA))))) [some (.cell 0), some (encJ j), none, some (enc x), some (enc s), some (.int d)] w3 = some (enc t, w4) ∧ Zs 6 1 t := by
    by_cases c : f = 0
    · exact ⟨40, by simp [e4, c, c40], zl (by decide +kernel) (by decide +kernel)⟩
    · exact ⟨0, by simp [e4, c, c01], zl (by decide +kernel) (by decide +kernel)⟩
  obtain ⟨t, m1, tz⟩ := mid
  have hz : Zs 19 13 (highOf j x + t) := hx.add tz (j := 18) (by omega) (by omega)
  have k2 := G__law_plus_eq (w := w4) (hx.sz (k := 20) (by omega) (by omega)) (tz.sz (k := 8) (by omega) (by omega)) (by omega)
  have uz : Zs 23 16 (highOf j x + t + s) := hz.add sz (j := 22) (by omega) (by omega)
  have vz : Zs 23 16 (highOf j x + t - s) := hz.sub sz (j := 22) (by omega) (by omega)
  have k3 := G__law_plus_eq (w := w4) (hz.sz (k := 20) (by omega) (by omega)) ss (by omega)
  have k4 := G__law_less_eq (w := w4) (hz.sz (k := 20) (by omega) (by omega)) ss (by omega)
  have p1 := G_place_eq xs (hz.sz (k := 40) (by omega) (by omega)) w4
  have p2 := G_place_eq xs (uz.sz (k := 40) (by omega) (by omega)) w4
  have p3 := G_place_eq xs (vz.sz (k := 40) (by omega) (by omega)) w4
  have run : G__law_target [.cell 0, encJ j] w = xDef.xRun (B__law_target [some (.cell 0), some (encJ j), none, none, none, none] w) := (xDef_eq (n := 2) (as := [_, _]) rfl)
  have pre : xPar3 3 4 5 (xConsA (xCall G__law_size (xConsA (xVar 0) (xNilA))) (xConsA (xCall G__law_slack (xConsA (xVar 0) (xNilA))) (xConsA (xCall G__law_draw (xConsA (xVar 0) (xConsA (xC (.int 6)) (xNilA)))) (xNilA)))) [some (.cell 0), some (encJ j), none, none, none, none] w = some (.nx [some (.cell 0), some (encJ j), none, some (enc x), some (enc s), some (.int d)] w3) := by simp [e1, e2, e3]
  rw [run]
  unfold B__law_target
  rw [xSeq_eq pre]
  by_cases c1 : d < 4
  · refine ⟨x, highOf j x + t, w4, ?_, x0, xz, hz.sz (by omega) (by omega), l4.mono (by omega)⟩
    simp [k1, -xIf, m1, k2]
    simp [c1, p1]
  · by_cases c2 : d = 4
    · refine ⟨x, highOf j x + t + s, w4, ?_, x0, xz, uz.sz (by omega) (by omega), l4.mono (by omega)⟩
      simp [k1, -xIf, m1, k2]
      simp [c2, k3, p2]
    · refine ⟨x, highOf j x + t - s, w4, ?_, x0, xz, vz.sz (by omega) (by omega), l4.mono (by omega)⟩
      simp [k1, -xIf, m1, k2]
      simp [c1, c2, k4, p3]
end
end Sp
/-! DR 5: the drawn guards. -/
namespace Sp
noncomputable section
def gdB : GS := xSeq (xAsg (xCall G__law_times (xConsA (xVar 5) (xConsA (xCall G__law_pick (xConsA (xVar 0) (xConsA (xTup (xConsA (xTup (xConsA (xC (.int 1)) (xConsA (xC (.int 2)) (xNilA)))) (xConsA (xTup (xConsA (xC (.int 1)) (xConsA (xC (.int 3)) (xNilA)))) (xConsA (xTup (xConsA (xC (.int 2)) (xConsA (xC (.int 3)) (xNilA)))) (xConsA (xTup (xConsA (xC (.int 1)) (xConsA (xC (.int 4)) (xNilA)))) (xConsA (xTup (xConsA (xC (.int 3)) (xConsA (xC (.int 4)) (xNilA)))) (xConsA (xTup (xConsA (xC (.int 2)) (xConsA (xC (.int 5)) (xNilA)))) (xNilA)))))))) (xNilA)))) (xNilA)))) (xName 6))
  (xSeq (xPar3 7 8 9 (xConsA (xCall G__law_high (xConsA (xVar 1) (xConsA (xVar 6) (xNilA)))) (xConsA (xCall G__law_slack (xConsA (xVar 0) (xNilA))) (xConsA (xCall G__law_draw (xConsA (xVar 0) (xConsA (xC (.int 7)) (xNilA)))) (xNilA)))))
  (xSeq (xAsg (xIf (xT (xOp fEq (xVar 9) (xC (.int 0)))) (xCall G__law_part (xConsA (xVar 0) (xNilA))) (xIf (xT (xOp fLt (xVar 9) (xC (.int 4)))) (xCall G__law_plus (xConsA (xVar 7) (xConsA (xVar 8) (xNilA)))) (xCall G__law_less (xConsA (xVar 7) (xConsA (xVar 8) (xNilA)))))) (xName 7))
  (xApp 4 (xTup (xConsA (xCall G__law_pick (xConsA (xVar 0) (xConsA (xTup (xConsA (xC (.str "post")) (xConsA (xC (.str "curtain")) (xNilA)))) (xNilA)))) (xConsA (xCall G__law_place (xConsA (xVar 6) (xConsA (xVar 7) (xNilA)))) (xNilA)))))))
theorem Well.app {f g : List A} {k : Nat} {w : W} (h : Well [f] k w) : w[1]? = some f ∧ Well [g] k (w.set 1 g) := by
  obtain ⟨a, b, c, rfl, h2⟩ := h
  exact ⟨rfl, a, b, c, rfl, h2⟩
theorem gd_step {j : Jet} (hj : JetOk j) {p : Pl} (px : Zs 4 3 p.x) (p0 : 0 < p.x) (pa : A) {found : List A} (hf : found.length ≤ 10000) {k : Nat} {w : W} (h : Well [found] k w) (hk : k < 30000) (s3 s6 s7 s8 s9 : Option A) : ∃ (g : Gd) (w' : W) (z6 z7 z8 z9 : Option A), gdB [some (.cell 0), some (encJ j), some pa, s3, some (.cell 1), some (enc p.x), s6, s7, s8, s9] w = some (.nx [some (.cell 0), some (encJ j), some pa, s3, some (.cell 1), some (enc p.x), z6, z7, z8, z9] w') ∧ PlOk g.a ∧ g.a.x < p.x ∧ Well [found ++ [encG g]] (k + 20) w' := by
  obtain ⟨a, w1, e1, hm, l1⟩ := G_pick_eq h (by omega) [.tup [.int 1, .int 2], .tup [.int 1, .int 3], .tup [.int 2, .int 3], .tup [.int 1, .int 4], .tup [.int 3, .int 4], .tup [.int 2, .int 5]] (by simp) (by simp)
  have lit : ∃ r, a = enc r ∧ 0 < r ∧ r < 1 ∧ Zs 2 3 r := by
    simp only [List.mem_cons, List.not_mem_nil, or_false] at hm
    rcases hm with rfl | rfl | rfl | rfl | rfl | rfl
    · exact ⟨1 / 2, enc_lit (by decide +kernel) (by decide +kernel), by decide +kernel, by decide +kernel, zl (by decide +kernel) (by decide +kernel)⟩
    · exact ⟨1 / 3, enc_lit (by decide +kernel) (by decide +kernel), by decide +kernel, by decide +kernel, zl (by decide +kernel) (by decide +kernel)⟩
    · exact ⟨2 / 3, enc_lit (by decide +kernel) (by decide +kernel), by decide +kernel, by decide +kernel, zl (by decide +kernel) (by decide +kernel)⟩
    · exact ⟨1 / 4, enc_lit (by decide +kernel) (by decide +kernel), by decide +kernel, by decide +kernel, zl (by decide +kernel) (by decide +kernel)⟩
    · exact ⟨3 / 4, enc_lit (by decide +kernel) (by decide +kernel), by decide +kernel, by decide +kernel, zl (by decide +kernel) (by decide +kernel)⟩
    · exact ⟨2 / 5, enc_lit (by decide +kernel) (by decide +kernel), by decide +kernel, by decide +kernel, zl (by decide +kernel) (by decide +kernel)⟩
  obtain ⟨r, rfl, r0, r1, rz⟩ := lit
  have xz : Zs 6 6 (p.x * r) := px.mul rz
  have x0 : 0 < p.x * r := Rat.mul_pos p0 r0
  have xl : p.x * r < p.x := by
    have := Rat.mul_lt_mul_of_pos_left r1 p0
    grind
  have f1 := G__law_times_eq (w := w1) (px.sz (k := 4) (by omega) (by omega)) (rz.sz (k := 4) (by omega) (by omega)) (by omega)
  obtain ⟨s, w2, e2, s0, sz, l2⟩ := G_slack_eq l1 (by omega)
  obtain ⟨d, w3, e3, d0, d1, l3⟩ := G_draw_eq l2 (by omega) (m := 7) (by omega) (by omega)
  have hx : Zs 20 18 (highOf j (p.x * r)) := (high_zs hj xz).mono (by decide) (by decide)
  have f2 : ∀ w, G__law_high [encJ j, enc (p.x * r)] w = some (enc (highOf j (p.x * r)), w) := fun w => G_high_eq hj xz (by omega) (by omega) w
  have ss := sz.sz (k := 4) (by omega) (by omega)
  have mid : ∃ (y : Rat) (w4 : W), (xIf (xT (xOp fEq (xVar 9) (xC (.int 0)))) (xCall G__law_part (xConsA (xVar 0) (xNilA))) (xIf (xT (xOp fLt (xVar 9) (xC (.int 4)))) (xCall G__law_plus (xConsA (xVar 7) (xConsA (xVar 8) (xNilA)))) (xCall G__law_less (xConsA (xVar 7) (xConsA (xVar 8) (xNilA)))))) [some (.cell 0), some (encJ j), some pa, s3, some (.cell 1), some (enc p.x), some (enc (p.x * r)), some (enc (highOf j (p.x * r))), some (enc s), some (.int d)] w3 = some (enc y, w4) ∧ Sz 40 y ∧ Well [found] (k + 8) w4 := by
    by_cases c1 : d = 0
    · obtain ⟨y, w4, e4, yz, l4⟩ := G_part_eq l3 (by omega)
      exact ⟨y, w4, by simp [c1, e4], yz.sz (by omega) (by omega), l4.mono (by omega)⟩
    · by_cases c2 : d < 4
      · have k3 := G__law_plus_eq (w := w3) (hx.sz (k := 20) (by omega) (by omega)) ss (by omega)
        exact ⟨_, w3, by simp [c1, c2, k3], (hx.add sz (j := 23) (by omega) (by omega)).sz (by omega) (by omega), l3.mono (by omega)⟩
      · have k3 := G__law_less_eq (w := w3) (hx.sz (k := 20) (by omega) (by omega)) ss (by omega)
        exact ⟨_, w3, by simp [c1, c2, k3], (hx.sub sz (j := 23) (by omega) (by omega)).sz (by omega) (by omega), l3.mono (by omega)⟩
  obtain ⟨y, w4, e4, yz, l4⟩ := mid
  obtain ⟨b, w5, e5, hb, l5⟩ := G_pick_eq l4 (by omega) [.str "post", .str "curtain"] (by simp) (by simp)
  have xs := xz.sz (k := 40) (by omega) (by omega)
  have e6 := G_place_eq xs yz w5
  have kind : ∃ post : Bool, b = .str (if post then "post" else "curtain") := by
    simp only [List.mem_cons, List.not_mem_nil, or_false] at hb
    rcases hb with rfl | rfl
    · exact ⟨true, rfl⟩
    · exact ⟨false, rfl⟩
  obtain ⟨post, rfl⟩ := kind
  obtain ⟨q1, q2⟩ := l5.app (g := found ++ [encG ⟨post, mkPl (p.x * r) y⟩])
  refine ⟨⟨post, mkPl (p.x * r) y⟩, w5.set 1 (found ++ [encG ⟨post, mkPl (p.x * r) y⟩]), some (enc (p.x * r)), some (enc y), some (enc s), some (.int d), ?_, mkPl_ok xs yz x0, xl, q2.mono (by omega)⟩
  have a1 : xCall G__law_times (xConsA (xVar 5) (xConsA (xCall G__law_pick (xConsA (xVar 0) (xConsA (xTup (xConsA (xTup (xConsA (xC (.int 1)) (xConsA (xC (.int 2)) (xNilA)))) (xConsA (xTup (xConsA (xC (.int 1)) (xConsA (xC (.int 3)) (xNilA)))) (xConsA (xTup (xConsA (xC (.int 2)) (xConsA (xC (.int 3)) (xNilA)))) (xConsA (xTup (xConsA (xC (.int 1)) (xConsA (xC (.int 4)) (xNilA)))) (xConsA (xTup (xConsA (xC (.int 3)) (xConsA (xC (.int 4)) (xNilA)))) (xConsA (xTup (xConsA (xC (.int 2)) (xConsA (xC (.int 5)) (xNilA)))) (xNilA)))))))) (xNilA)))) (xNilA))) [some (.cell 0), some (encJ j), some pa, s3, some (.cell 1), some (enc p.x), s6, s7, s8, s9] w = some (enc (p.x * r), w1) := by simp [e1, f1]
  have xa : ∀ {ge : GE} {i : Nat} {ss : SS} {w w' : W} {a : A}, ge ss w = some (a, w') → xAsg ge (xName i) ss w = some (.nx (ss.set i (some a)) w') := fun {ge i ss w w' a} h => by
    unfold xAsg
    rw [h]
    rfl
  unfold gdB
  rw [xSeq_eq (xa a1)]
  have a2 : xPar3 7 8 9 (xConsA (xCall G__law_high (xConsA (xVar 1) (xConsA (xVar 6) (xNilA)))) (xConsA (xCall G__law_slack (xConsA (xVar 0) (xNilA))) (xConsA (xCall G__law_draw (xConsA (xVar 0) (xConsA (xC (.int 7)) (xNilA)))) (xNilA)))) [some (.cell 0), some (encJ j), some pa, s3, some (.cell 1), some (enc p.x), some (enc (p.x * r)), s7, s8, s9] w1 = some (.nx [some (.cell 0), some (encJ j), some pa, s3, some (.cell 1), some (enc p.x), some (enc (p.x * r)), some (enc (highOf j (p.x * r))), some (enc s), some (.int d)] w3) := by simp [f2, e2, e3]
  refine (xSeq_eq a2).trans ?_
  refine (xSeq_eq (xa e4)).trans ?_
  have sm : found.length ≤ 10000 := hf
  show xApp 4 _ [some (.cell 0), some (encJ j), some pa, s3, some (.cell 1), some (enc p.x), some (enc (p.x * r)), some (enc y), some (enc s), some (.int d)] w4 = _
  simp [xApp, e5, e6, q1, sm, encG]
theorem gd_walk {j : Jet} (hj : JetOk j) {p : Pl} (px : Zs 4 3 p.x) (p0 : 0 < p.x) (pa : A) : ∀ (xs : List A) (found : List A) (k : Nat) (w : W) (s3 s6 s7 s8 s9 : Option A), found.length + xs.length ≤ 100 → Well [found] k w → k + 20 * xs.length < 30000 →
    ∃ (gs : List Gd) (w' : W) (z3 z6 z7 z8 z9 : Option A), forLoop (xName 3) gdB xs [some (.cell 0), some (encJ j), some pa, s3, some (.cell 1), some (enc p.x), s6, s7, s8, s9] w = some (.nx [some (.cell 0), some (encJ j), some pa, z3, some (.cell 1), some (enc p.x), z6, z7, z8, z9] w') ∧ gs.length = xs.length ∧ (∀ g ∈ gs, PlOk g.a ∧ g.a.x < p.x) ∧ Well [found ++ gs.map encG] (k + 20 * xs.length) w'
  | [], found, k, w, s3, s6, s7, s8, s9, _, h, _ => ⟨[], w, s3, s6, s7, s8, s9, by simp, rfl, fun _ z => (nomatch z), by simpa using h⟩
  | x :: xs, found, k, w, s3, s6, s7, s8, s9, hl, h, hk => by
    simp only [List.length_cons] at hl hk
    obtain ⟨g, w1, y6, y7, y8, y9, e1, ok, lt, l1⟩ := gd_step hj px p0 pa (by omega) h (by omega) (some x) s6 s7 s8 s9
    obtain ⟨gs, w2, z3, z6, z7, z8, z9, e2, len, oks, l2⟩ := gd_walk hj px p0 pa xs (found ++ [encG g]) (k + 20) w1 (some x) y6 y7 y8 y9 (by simp; omega) l1 (by omega)
    refine ⟨g :: gs, w2, z3, z6, z7, z8, z9, ?_, by simp [len], fun b hb => ?_, ?_⟩
    · conv => lhs; unfold forLoop
      show ((gdB [some (.cell 0), some (encJ j), some pa, some x, some (.cell 1), some (enc p.x), s6, s7, s8, s9] w).bind _) = _
      rw [e1]
      exact e2
    · rcases List.mem_cons.mp hb with rfl | hb
      · exact ⟨ok, lt⟩
      · exact oks b hb
    · have : found ++ (g :: gs).map encG = found ++ [encG g] ++ gs.map encG := by simp
      rw [this]
      exact l2.mono (by simp only [List.length_cons]; omega)
theorem noCells_G (gs : List Gd) : A.noCells (gs.map encG) = true := by
  induction gs with
  | nil => rfl
  | cons g gs ih =>
    rw [List.map_cons]
    show (A.noCell (encG g) && A.noCells (gs.map encG)) = true
    rw [ih]
    rfl
theorem G_guards_eq {k : Nat} {w : W} (h : Well [] k w) (hk : k < 20000) {j : Jet} (hj : JetOk j) {p : Pl} (hp : PlOk p) (px : Zs 4 3 p.x) : ∃ (gs : List Gd) (w' : W), G__law_guards [.cell 0, encJ j, encPl p] w = some (.tup (gs.map encG), w') ∧ gs ≠ [] ∧ gs.length ≤ 4 ∧ (∀ g ∈ gs, PlOk g.a ∧ g.a.x < p.x) ∧ Well [] (k + 100) w' := by
  have h1 : Well [[]] k (w ++ [[]]) := by
    obtain ⟨a, b, c, rfl, h2⟩ := h
    exact ⟨a, b, c, rfl, h2⟩
  have wl : w.length = 1 := by
    obtain ⟨a, b, c, rfl, h2⟩ := h
    rfl
  obtain ⟨d, w1, e1, d0, d1, l1⟩ := G_draw_eq h1 (by omega) (m := 4) (by omega) (by omega)
  have hn : (1 + d).toNat ≤ 4 ∧ 1 ≤ (1 + d).toNat := by omega
  obtain ⟨gs, w2, z3, z6, z7, z8, z9, e2, len, oks, l2⟩ := gd_walk hj px hp.xp (encPl p) (nums 0 (1 + d).toNat) [] (k + 1) w1 none none none none none (by simp [nums_len]; omega) l1 (by rw [nums_len]; omega)
  rw [nums_len] at len l2
  have ro : rngOk (1 + d) = true := sure_iff.mpr (by omega)
  have ap : xOp fIx (xCall G__law_apart (xConsA (xVar 2) (xNilA))) (xC (.int 0)) [some (.cell 0), some (encJ j), some (encPl p), none, none, none, none, none, none, none] (w ++ [[]]) = some (enc p.x, w ++ [[]]) := by simp [G__law_apart_eq hp]
  have lp : xFor (yRng1 (xOp fAdd (xC (.int 1)) (xCall G__law_draw (xConsA (xVar 0) (xConsA (xC (.int 4)) (xNilA)))))) (xName 3) gdB [some (.cell 0), some (encJ j), some (encPl p), none, some (.cell 1), some (enc p.x), none, none, none, none] (w ++ [[]]) = some (.nx [some (.cell 0), some (encJ j), some (encPl p), z3, some (.cell 1), some (enc p.x), z6, z7, z8, z9] w2) := by
    simp [yRng1, e1, ro, -forLoop, e2]
  obtain ⟨a, b, c, hw2, h2⟩ := l2
  refine ⟨gs, [[.int a, .int b, .int c]], ?_, fun z => ?_, by omega, oks, ⟨a, b, c, rfl, h2.1, h2.2.1, h2.2.2.1, h2.2.2.2.1, by omega⟩⟩
  · have run : G__law_guards [.cell 0, encJ j, encPl p] w = xDef.xRun (B__law_guards [some (.cell 0), some (encJ j), some (encPl p), none, none, none, none, none, none, none] w) := (xDef_eq (n := 3) (as := [_, _, _]) rfl)
    rw [run]
    show xDef.xRun (xAlloc2 4 5 (xOp fIx (xCall G__law_apart (xConsA (xVar 2) (xNilA))) (xC (.int 0))) (xSeq (xFor (yRng1 (xOp fAdd (xC (.int 1)) (xCall G__law_draw (xConsA (xVar 0) (xConsA (xC (.int 4)) (xNilA)))))) (xName 3) gdB) (xRet (xTupC 4))) _ w) = _
    unfold xAlloc2
    rw [ap, wl]
    dsimp only [Option.bind_some]
    have body : (xSeq (xFor (yRng1 (xOp fAdd (xC (.int 1)) (xCall G__law_draw (xConsA (xVar 0) (xConsA (xC (.int 4)) (xNilA)))))) (xName 3) gdB) (xRet (xTupC 4))) [some (.cell 0), some (encJ j), some (encPl p), none, some (.cell 1), some (enc p.x), none, none, none, none] (w ++ [[]]) = some (.rt (.tup (gs.map encG)) w2) := by
      rw [xSeq_eq lp, hw2]
      rfl
    refine (congrArg (fun o => xDef.xRun (Option.bind o (xFin 1))) body).trans ?_
    rw [hw2]
    show xDef.xRun (if A.noCells (gs.map encG) && A.plain (List.take 1 _) then _ else none) = _
    rw [noCells_G]
    rfl
  · subst z
    simp at len
    omega
end
end Sp
/-! RI 1: the law's last def answers True. -/
namespace Sp
noncomputable section
theorem G__law_right_eq {w : W} (h : Well [] 0 w) : ∃ w', G__law_right [.cell 0] w = some (.bl true, w') := by
  obtain ⟨hd, as, j, w1, e1, h0, hs, oka, len, hj, l1⟩ := G_world_eq h (by omega)
  obtain ⟨x, y, w2, e2, x0, xz, ys, l2⟩ := G_target_eq l1 (by omega) hj
  have okp := mkPl_ok (xz.sz (k := 40) (by omega) (by omega)) ys x0
  have px : Zs 4 3 (mkPl x y).x := xz
  obtain ⟨g1, w3, e3, n1, m1, ok1, l3⟩ := G_guards_eq l2 (by omega) hj okp px
  obtain ⟨g2, w4, e4, n2, m2, ok2, l4⟩ := G_guards_eq l3 (by omega) hj okp px
  generalize mkPl x y = p at *
  have hw := l4.plain
  -- the guards: those, and the first of the others
  have wd : WdOk hd as p (g1 ++ g2.take 1) := ⟨h0, hs, oka, by omega, okp, fun g hg => by
    rcases List.mem_append.mp hg with hg | hg
    · exact ok1 g hg
    · exact ok2 g (List.mem_of_mem_take hg), by
    rw [List.length_append, List.length_take]
    omega⟩
  have ne : g1 ++ g2.take 1 ≠ [] := fun z => n1 (List.append_eq_nil_iff.mp z).1
  have cutE : cut (g2.map encG) none (some 1) = (g2.take 1).map encG := by
    have hl : 1 ≤ (g2.map encG).length := by
      rw [List.length_map]
      cases g2 with
      | nil => exact absurd rfl n2
      | cons a l => simp
    unfold cut
    have p1 : plc (g2.map encG).length (g2.map encG).length (some 1) = 1 := plc_some (i := 1) hl
    rw [p1]
    show ((g2.map encG).drop 0).take (1 - 0) = _
    rw [List.drop_zero, List.map_take]
  have sm : (g1.map encG).length + ((g2.take 1).map encG).length ≤ 10000 := by
    simp only [List.length_map, List.length_take]
    omega
  have ad : fAdd (.tup (g1.map encG)) (.tup ((g2.take 1).map encG)) = some (.tup ((g1 ++ g2.take 1).map encG)) := by
    show (if small ((g1.map encG).length + ((g2.take 1).map encG).length) then some (A.tup (g1.map encG ++ (g2.take 1).map encG)) else none) = _
    rw [if_pos (show small _ = true from decide_eq_true sm), List.map_append]
  generalize g1 ++ g2.take 1 = gs at *
  have due := G__law_fewest_eq wd hw
  have told := G_fewest_eq wd hw (G_check_ok wd ne w4)
  have gd := G__law_guarded_eq wd hw
  have ig := G_is_guarded_eq wd ne hw
  have tells := few_tells wd
  have lm := wd.m
  generalize hfw : few (hold hd as p) gs = fw at *
  have a3 : xOp fAdd (xCall G__law_guards (xConsA (xVar 0) (xConsA (xVar 7) (xConsA (xVar 1) (xNilA))))) (xSl (xCall G__law_guards (xConsA (xVar 0) (xConsA (xVar 7) (xConsA (xVar 1) (xNilA))))) (xONone) (xOSome (xC (.int 1)))) [some (.cell 0), some (encPl p), none, none, none, some (enc hd), some (.tup (as.map encAsk)), some (encJ j), none] w2 = some (.tup (gs.map encG), w4) := by
    simp [e3, e4, cutE, -fAdd, -List.map_take]
    rw [ad]
  have run : G__law_right [.cell 0] w = xDef.xRun (B__law_right [some (.cell 0), none, none, none, none, none, none, none, none] w) := (xDef_eq (n := 1) (as := [_]) rfl)
  have xa : ∀ {ge : GE} {i : Nat} {ss : SS} {w w' : W} {a : A}, ge ss w = some (a, w') → xAsg ge (xName i) ss w = some (.nx (ss.set i (some a)) w') := fun {ge i ss w w' a} h => by
    unfold xAsg
    rw [h]
    rfl
  have s1 : xAsg (xCall G__law_open_world (xConsA (xVar 0) (xNilA))) (xTupG (xConsG (xName 5) (xConsG (xName 6) (xConsG (xName 7) (xNilG))))) [some (.cell 0), none, none, none, none, none, none, none, none] w = some (.nx [some (.cell 0), none, none, none, none, some (enc hd), some (.tup (as.map encAsk)), some (encJ j), none] w1) := by simp [e1]
  have s2 : xCall G__law_target (xConsA (xVar 0) (xConsA (xVar 7) (xNilA))) [some (.cell 0), none, none, none, none, some (enc hd), some (.tup (as.map encAsk)), some (encJ j), none] w1 = some (encPl p, w2) := by simp [e2]
  have s4 : xCall G__law_fewest (xConsA (xVar 5) (xConsA (xVar 6) (xConsA (xVar 1) (xConsA (xVar 2) (xNilA))))) [some (.cell 0), some (encPl p), some (.tup (gs.map encG)), none, none, some (enc hd), some (.tup (as.map encAsk)), some (encJ j), none] w4 = some (fw, w4) := by simp [due]
  have s5 : xCall G_fewest_guards (xConsA (xVar 5) (xConsA (xVar 6) (xConsA (xVar 1) (xConsA (xVar 2) (xNilA))))) [some (.cell 0), some (encPl p), some (.tup (gs.map encG)), some fw, none, some (enc hd), some (.tup (as.map encAsk)), some (encJ j), none] w4 = some (fw, w4) := by simp [told]
  refine ⟨w4, ?_⟩
  rw [run]
  unfold B__law_right
  rw [xSeq_eq s1]
  refine (congrArg xDef.xRun (xSeq_eq (xa s2))).trans ?_
  refine (congrArg xDef.xRun (xSeq_eq (xa a3))).trans ?_
  refine (congrArg xDef.xRun (xSeq_eq (xa s4))).trans ?_
  refine (congrArg xDef.xRun (xSeq_eq (xa s5))).trans ?_
  have lg : ∀ i : Nat, i < gs.length → ((i : Int)).natAbs.log2 < 1000 := fun i hi => by
    rw [Int.natAbs_natCast]
    have := log2_le (n := 10) (x := i) (by omega)
    omega
  show xDef.xRun ((xSeq _ _) [some (.cell 0), some (encPl p), some (.tup (gs.map encG)), some fw, some fw, some (enc hd), some (.tup (as.map encAsk)), some (encJ j), none] w4) = _
  rcases tells with ⟨rfl, ho⟩ | ⟨rfl, ho⟩ | ⟨i, hi, rfl, h1, ho⟩ | ⟨i, k, hi, hk, rfl, h1, ho⟩
  · rw [ho] at gd ig
    simp [bRepr, reprOk, gd, ig]
  · rw [ho] at gd ig
    simp [bRepr, reprOk, gd, ig]
  · rw [ho] at gd
    have q := lg i hi
    have x1 := ix_gs hi
    have ig1 := G_is_guarded_eq (gs := [gat gs i]) (wd.sub (fun x hx => by rw [List.mem_singleton.mp hx]; exact mem_get hi) (by simp)) (by simp) hw
    rw [h1] at ig1
    simp only [List.map_cons, List.map_nil] at ig1
    simp only [Int.natAbs_natCast] at q
    simp [bRepr, reprOk, gd, q, -fIx, x1, ig1]
  · rw [ho] at gd
    have q := lg i hi
    have q2 := lg k hk
    have x1 := ix_gs hi
    have x2 := ix_gs hk
    have ig1 := G_is_guarded_eq (gs := [gat gs i, gat gs k]) (wd.sub (fun x hx => by
      rcases List.mem_cons.mp hx with rfl | hx
      · exact mem_get hi
      · rw [List.mem_singleton.mp hx]
        exact mem_get hk) (by simp)) (by simp) hw
    rw [h1] at ig1
    simp only [List.map_cons, List.map_nil] at ig1
    simp only [Int.natAbs_natCast] at q q2
    simp [bRepr, reprOk, gd, q, q2, -fIx, x1, x2, ig1]
end
end Sp
namespace Sp
open PySem PySem.Spec PyProof.Rows L2
/-! ### the law: a well, its rounds, all of it -/
theorem same_new {H : Hp} {p : Addr} {o : HO} (h : H p = none) : Same H (upd H p o) := fun a u q => by
  rw [upd_ne (ne_of_none q h)]
  exact q
def spRounds (K : PySem.W.Frag) : L2.Sp := fun vs H Q _ => ∃ a ns, vs = [.ref a, .int 1, .int 1] ∧ SqL K H a ns ∧ Q (.int 1) H
def spWell (K : PySem.W.Frag) : L2.Sp := fun vs H Q _ => ∃ (a : Addr) (ns : List Int), vs = [.ref a, .int 0] ∧ SqL K H a (ns.map V.int) ∧
  ∀ H' p g s, Same H H' → H p = none → H' p = some (.lst [.int g, .int s, .int 0]) → 0 ≤ g → 0 ≤ s → s < 1000000123 → Q (.ref p) H'
def spLaw (K : PySem.W.Frag) : L2.Sp := fun vs H Q _ => ∃ (a : Addr) (ns : List Int), vs = [.ref a] ∧ SqL K H a (ns.map V.int) ∧ ∀ H', Q (.bl true) H'
def t_rounds (K : PySem.W.Frag) : TS := tRet (tCB rMaxX (tCons (tVar 1) (tCons (tCB rMinX (tCons (tCB (rLenX K) (tCons (tVar 0) tNil)) (tCons (tVar 2) tNil))) tNil)))
theorem rounds_read {K : PySem.W.Frag} {vs : List V} {H : Hp} {Q : VK} {E : XK} (h : spRounds K vs H Q E) : t_rounds K { nx := fun _ H' => Q .non H', rt := Q } (L2.start ["_law_script", "_law_least", "_law_most"] vs) H := by
  obtain ⟨a, ns, rfl, hS, q⟩ := h
  refine ⟨_, rfl, _, rfl, _, _, rfl, .inl hS, _, rfl, _, _, rfl, _, _, rfl, ?_⟩
  have e : (if (if (1 : Int) < (ns.length : Int) then (1 : Int) else (ns.length : Int)) > 1 then (if (1 : Int) < (ns.length : Int) then (1 : Int) else (ns.length : Int)) else 1) = 1 := by
    rcases Nat.eq_zero_or_pos ns.length with h | h
    · rw [h]
      decide
    · by_cases h2 : (1 : Int) < (ns.length : Int)
      · rw [if_pos h2]
        decide
      · have h3 : ns.length = 1 := by omega
        rw [h3]
        decide
  show Q (.int (if (if (1 : Int) < (ns.length : Int) then (1 : Int) else (ns.length : Int)) > 1 then (if (1 : Int) < (ns.length : Int) then (1 : Int) else (ns.length : Int)) else 1)) H
  rw [e]
  exact q
abbrev rPlus : R2 := rI0 fun i j => .int (i + j)
abbrev rTimes : R2 := rI CMul fun i j => .int (i * j)
abbrev rRest : R2 := rI (fun _ j => 0 < j) fun i j => .int (i % j)
abbrev tI (i : Int) : TE := tC (.int i)
abbrev tInt (t : TE) : TE := tCB rIntX (tCons t tNil)
def t_well (K : PySem.W.Frag) : TS :=
  tSeq (tAsg (tOp rPlus (tI 700001) (tOp rTimes (tI 9241) (tVar 1))) (L2.gName 2))
  (tSeq (tFor (L2.iList K (tSl (rSlL K) (tVar 0) tNoPart (tPart (tI 63)))) (L2.gName 3)
    (tAsg (tOp rRest (tInt (tOp rPlus (tOp rPlus (tOp rTimes (tVar 2) (tI 44497)) (tOp rRest (tInt (tVar 3)) (tI 536870909))) (tI 61))) (tI 1000000123)) (L2.gName 2)))
  (tSeq (tAsg (tIf (tTest (tOp (rI0 fun i j => .bl (decide (i < j))) (tVar 1) (tCB (rLenX K) (tCons (tVar 0) tNil)))) (tInt (tOp (rIxL K) (tVar 0) (tVar 1))) (tI 0)) (L2.gName 4))
  (tSeq (tAsg (tIf (tTest (tOp (rI0 fun i j => .bl (decide (j ≤ i))) (tCB rAbsX (tCons (tVar 4) tNil)) (tOp (rI CPow fun i j => .int (i ^ j.toNat)) (tI 10) (tI 18)))) (tCB rAbsX (tCons (tVar 4) tNil)) (tI 0)) (L2.gName 5))
  (tRet (tLst (tCons (tVar 5) (tCons (tOp rRest (tInt (tOp rPlus (tVar 2) (tOp rTimes (tI 13) (tOp rRest (tInt (tVar 4)) (tI 59999999))))) (tI 1000000123)) (tCons (tI 0) tNil))))))))
theorem iteB {b : Bool} {A B : Prop} (h1 : b = true → A) (h2 : b = false → B) : if b = true then A else B := by
  cases b with
  | true => exact h1 rfl
  | false => exact h2 rfl
theorem cut_mem {xs : List V} {lo hi : Option Int} {x : V} (h : x ∈ cutV xs lo hi) : x ∈ xs := by
  unfold cutV at h
  exact List.mem_of_mem_drop (List.mem_of_mem_take h)
theorem well_read {K : PySem.W.Frag} {vs : List V} {H : Hp} {Q : VK} {E : XK} (h : spWell K vs H Q E) : t_well K { nx := fun _ H' => Q .non H', rt := Q } (L2.start ["_law_script", "_law_turn", "_law_stirred", "_law_cell", "_law_own", "_law_great"] vs) H := by
  obtain ⟨a, ns, rfl, hS, q⟩ := h
  refine ⟨_, rfl, _, _, rfl, rfl, .inl ⟨by decide, by decide⟩, _, _, rfl, rfl, ?_⟩
  refine ⟨_, rfl, _, rfl, a, _, rfl, hS, fun p hp => ?_⟩
  have hS1 := Same.seq (same_new (o := .lst (cutV (ns.map V.int) none (some 63))) hp) hS
  have hX : SqL K (upd H p (.lst (cutV (ns.map V.int) none (some 63)))) p (cutV (ns.map V.int) none (some 63)) := SqL.of upd_same
  have sm1 : Same H (upd H p (.lst (cutV (ns.map V.int) none (some 63)))) := same_new hp
  generalize hH1 : upd H p (.lst (cutV (ns.map V.int) none (some 63))) = H1 at *
  refine ⟨p, rfl, ⟨_, hX⟩, for_list (xs := cutV (ns.map V.int) none (some 63)) (fun _ σ H' => H' = H1 ∧ ∃ (s : Int) (c : Option V), 0 ≤ s ∧ s < 1000000123 ∧ σ = [some (.ref a), some (.int 0), some (.int s), c, none, none]) ⟨rfl, 700001, none, by decide, by decide, rfl⟩ (fun i σ H' _ hq => ?_) (fun i x σ H' hx hq => ?_) fun σ H' hq => ?_⟩
  · rw [hq.1]
    exact hX
  · obtain ⟨rfl, s, c, s0, s1, rfl⟩ := hq
    have hm := cut_mem (List.mem_of_getElem? hx)
    obtain ⟨k, _, rfl⟩ := List.mem_map.mp hm
    refine ⟨_, rfl, _, _, rfl, rfl, .inl ⟨by omega, by omega⟩, _, rfl, .inl ⟨_, rfl, _, _, rfl, rfl, (by show (0 : Int) < 536870909; decide), _, _, rfl, rfl, _, _, rfl, rfl, .inl ⟨_, rfl, _, _, rfl, rfl, (by show (0 : Int) < 1000000123; decide), ?_⟩⟩⟩
    exact ⟨rfl, _, some (.int k), Int.emod_nonneg _ (by decide), Int.emod_lt_of_pos _ (by decide), rfl⟩
  · obtain ⟨rfl, s, c, s0, s1, rfl⟩ := hq
    -- what follows the own number
    have fin2 : ∀ own g : Int, 0 ≤ g → tRet (tLst (tCons (tVar 5) (tCons (tOp rRest (tInt (tOp rPlus (tVar 2) (tOp rTimes (tI 13) (tOp rRest (tInt (tVar 4)) (tI 59999999))))) (tI 1000000123)) (tCons (tI 0) tNil)))) { nx := fun _ H' => Q .non H', rt := Q } [some (.ref a), some (.int 0), some (.int s), c, some (.int own), some (.int g)] H' := fun own g hg => by
      have e0 := Int.emod_nonneg own (show (59999999 : Int) ≠ 0 by decide)
      have e1 := Int.emod_lt_of_pos own (show (0 : Int) < 59999999 by decide)
      refine ⟨_, rfl, _, rfl, _, rfl, .inl ⟨_, rfl, _, _, rfl, rfl, (by show (0 : Int) < 59999999; decide), _, _, rfl, rfl, .inl ⟨by decide, by decide⟩, _, _, rfl, rfl, .inl ⟨_, rfl, _, _, rfl, rfl, (by show (0 : Int) < 1000000123; decide), (by show 3 ≤ sizeLine; decide), fun p2 hp2 => ?_⟩⟩⟩
      exact q _ p2 _ _ (sm1.trans (same_new hp2)) (sm1.free hp2) upd_same hg (Int.emod_nonneg _ (by decide)) (Int.emod_lt_of_pos _ (by decide))
    have fin : ∀ own : Int, tSeq (tAsg (tIf (tTest (tOp (rI0 fun i j => .bl (decide (j ≤ i))) (tCB rAbsX (tCons (tVar 4) tNil)) (tOp (rI CPow fun i j => .int (i ^ j.toNat)) (tI 10) (tI 18)))) (tCB rAbsX (tCons (tVar 4) tNil)) (tI 0)) (L2.gName 5)) (tRet (tLst (tCons (tVar 5) (tCons (tOp rRest (tInt (tOp rPlus (tVar 2) (tOp rTimes (tI 13) (tOp rRest (tInt (tVar 4)) (tI 59999999))))) (tI 1000000123)) (tCons (tI 0) tNil))))) { nx := fun _ H' => Q .non H', rt := Q } [some (.ref a), some (.int 0), some (.int s), c, some (.int own), none] H' := fun own => by
      refine ⟨_, rfl, _, rfl, _, _, rfl, rfl, ⟨by decide, by decide, by decide⟩, _, _, rfl, rfl, _, rfl, iteB (fun _ => ?_) fun _ => ?_⟩
      · exact ⟨_, rfl, _, rfl, fin2 own _ (by split <;> omega)⟩
      · exact fin2 own 0 (Int.le_refl 0)
    refine ⟨_, rfl, _, rfl, _, _, rfl, .inl hS1, _, _, rfl, rfl, _, rfl, iteB (fun hlt => ?_) fun _ => ?_⟩
    · have hlt2 : (0 : Int) < ((ns.map V.int).length : Int) := of_decide_eq_true hlt
      cases ns with
      | nil => exact absurd hlt2 (by decide)
      | cons n ns => exact ⟨_, rfl, _, rfl, a, _, _, _, rfl, rfl, hS1, atI_nat (j := 0) rfl, .inl ⟨n, rfl, fin n⟩⟩
    · exact fin 0
section
variable {P : Program} {w : World} {K : PySem.W.Frag} {mg : Str → Option Value} {base : Heap}
theorem k_rounds (c : Fx P w K mg base) : ∃ fd, mg "_law_rounds" = some (.ref (He.ga K "_law_rounds")) ∧ FnOk P w K mg base CX0 1 (He.ga K "_law_rounds") fd ["_law_script", "_law_least", "_law_most"] (spRounds K) ∧ PySem.W.keepIn K (.ref (He.ga K "_law_rounds")) = true ∧ Binds K fd ["_law_script", "_law_least", "_law_most"] [] := by
  obtain ⟨fd, hm, F⟩ := c.d__law_rounds
  refine ⟨fd, hm, F.ok sc__law_rounds (fun vs H Q E q => ?_) fun cdv A outer s H vs Q E hr hsp => ⟨t_rounds K, PSs.nox ?_, rounds_read hsp⟩, F.kp, F.bindsN fun _ _ _ _ _ _ us hl => match us, hl with | [_, _, _], _ => rfl⟩
  · obtain ⟨_, _, rfl, _⟩ := q
    rfl
  · exact pss_one (ps_ret (pe_callB (cr_maxX rfl) rfl c.f_max b_max (pa_cons (pv 1) (pa_cons (pe_callB (cr_minX rfl) rfl c.f_min b_min (pa_cons (pe_callB cr_lenX rfl c.f_len b_len (pa_cons (pv 0) pa_nil)) (pa_cons (pv 2) pa_nil))) pa_nil))))
theorem sc_well : FnScope ["_law_script", "_law_turn", "_law_stirred", "_law_cell", "_law_own", "_law_great"] ["_law_script", "_law_turn"] (defScope (topS 91)) := ⟨rfl, rfl, rfl, by decide +kernel, rfl, by decide +kernel, by decide +kernel⟩
theorem k_well (c : Fx P w K mg base) : ∃ fd, mg "_law_well" = some (.ref (He.ga K "_law_well")) ∧ FnOk P w K mg base CX0 1 (He.ga K "_law_well") fd ["_law_script", "_law_turn"] (spWell K) ∧ PySem.W.keepIn K (.ref (He.ga K "_law_well")) = true ∧ Binds K fd ["_law_script", "_law_turn"] [] := by
  obtain ⟨fd, hm, F⟩ := c.d__law_well
  have sc := sc_well
  refine ⟨fd, hm, F.ok sc (fun vs H Q E q => ?_) fun cdv A outer s H vs Q E hr hsp => ⟨t_well K, PSs.nox ?_, well_read hsp⟩, F.kp, F.bindsN fun _ _ _ _ _ _ us hl => match us, hl with | [_, _], _ => rfl⟩
  · obtain ⟨_, _, rfl, _⟩ := q
    rfl
  · refine pss_cons (ps_set (i := 2) sc.nd rfl (.inl rfl) (pe_op op_add pe_int (pe_op op_mul pe_int (pv 1)))) (pss_cons ?_ (pss_cons ?_ (pss_cons ?_ (pss_one ?_))))
    · exact ps_for PassesOwn.never rfl (pi_list (pe_slice sl_list (pv 0) po_none (po_some pe_int))) (pg_name (i := 3) sc.nd rfl (.inl rfl)) (pss_one (ps_set (i := 2) sc.nd rfl (.inl rfl) (pe_op op_mod (pe_callTy cr_intX rfl c.f_int b_int (pa_cons (pe_op op_add (pe_op op_add (pe_op op_mul (pv 2) pe_int) (pe_op op_mod (pe_callTy cr_intX rfl c.f_int b_int (pa_cons (pv 3) pa_nil)) pe_int)) pe_int) pa_nil)) pe_int)))
    · exact ps_set (i := 4) sc.nd rfl (.inl rfl) (pe_ifExp (pt_cmpR op_lt (pv 1) (pe_callB cr_lenX rfl c.f_len b_len (pa_cons (pv 0) pa_nil)) (nomark _)) (pe_callTy cr_intX rfl c.f_int b_int (pa_cons (pe_ix ix_list (pv 0) (pv 1) (fun _ _ => rfl)) pa_nil)) pe_int)
    · exact ps_set (i := 5) sc.nd rfl (.inl rfl) (pe_ifExp (pt_cmpR op_ge (pe_callB cr_absX rfl c.f_abs b_abs (pa_cons (pv 4) pa_nil)) (pe_op op_pow pe_int pe_int) (nomark _)) (pe_callB cr_absX rfl c.f_abs b_abs (pa_cons (pv 4) pa_nil)) pe_int)
    · exact ps_ret (pe_lst (pa_cons (pv 5) (pa_cons (pe_op op_mod (pe_callTy cr_intX rfl c.f_int b_int (pa_cons (pe_op op_add (pv 2) (pe_op op_mul pe_int (pe_op op_mod (pe_callTy cr_intX rfl c.f_int b_int (pa_cons (pv 4) pa_nil)) pe_int))) pa_nil)) pe_int) (pa_cons pe_int pa_nil))))
def t_law (K : PySem.W.Frag) : TS := tRet (tCB (rAll K) (tCons (tLc (L2.iRng1 (tCons (tCall (spRounds K) [] E0 (tCons (tVar 0) (tCons (tI 1) (tCons (tI 1) tNil)))) tNil)) (L2.gName 1) tYes (tCall (spG K 1 G__law_right) [] E0 (tCons (tCall (spWell K) [] E0 (tCons (tVar 0) (tCons (tVar 1) tNil))) tNil)) [1]) tNil))
/-- what _law_right promises of a new well -/
theorem right_at {K : PySem.W.Frag} {H : Hp} {p : Addr} {g s : Int} {Q : VK} {E : XK} (hp : H p = some (.lst [.int g, .int s, .int 0])) (hg : 0 ≤ g) (h0 : 0 ≤ s) (h1 : s < 1000000123) (q : ∀ H', (∀ b o, b ≠ p → H b = some o → H' b = some o) → Q (.bl true) H') : spG K 1 G__law_right [.ref p] H Q E := by
  obtain ⟨w', e⟩ := G__law_right_eq (w := [[.int g, .int s, .int 0]]) ⟨g, s, 0, rfl, hg, h0, h1, Int.le_refl 0, Int.le_refl 0⟩
  refine ⟨rfl, ⟨[p], fun b => b = p⟩, [.cell 0], [[.int g, .int s, .int 0]], .bl true, w', ⟨fun b hb => List.mem_singleton.mp hb, fun b hb => ?_, rfl, by simp, fun n b xs h2 h3 => ?_⟩, ⟨.ref p, [], rfl, ⟨p, rfl, rfl⟩, rfl⟩, e, fun v H' x _ r => ?_⟩
  · rw [show b = p from hb, hp]
    exact fun z => nomatch z
  · match n, h2, h3 with
    | 0, h2, h3 =>
      cases h2
      cases h3
      exact ⟨_, hp, _, _, rfl, rfl, _, _, rfl, rfl, _, _, rfl, rfl, rfl⟩
    | n + 1, h2, _ => cases h2
  · rw [show v = .bl true from r]
    exact q H' fun b o nb hb => x b o (fun z => nb (List.mem_singleton.mp z)) hb
theorem law_read {K : PySem.W.Frag} {vs : List V} {H : Hp} {Q : VK} {E : XK} (h : spLaw K vs H Q E) : t_law K { nx := fun _ H' => Q .non H', rt := Q } (L2.start ["_law_script", "_law_turn"] vs) H := by
  obtain ⟨a, ns, rfl, hS, q⟩ := h
  refine ⟨_, rfl, ⟨a, _, rfl, hS, 1, rfl, by decide, by decide, fun D hD => lc_range (fun i H' => H' D = some (.lst (List.replicate i (.bl true))) ∧ (i = 0 → SqL K H' a (ns.map V.int))) ⟨upd_same, fun _ => Same.seq (same_new hD) hS⟩ (fun i H1 hi p => ?_) fun H1 p => ?_⟩⟩
  · obtain ⟨p1, p2⟩ := p
    have i0 : i = 0 := by
      have : i < 1 := hi
      omega
    subst i0
    refine ⟨rfl, ?_⟩
    show tCall (spG K 1 G__law_right) [] E0 (tCons (tCall (spWell K) [] E0 (tCons (tVar 0) (tCons (tVar 1) tNil))) tNil) _ _ _
    refine ⟨_, rfl, _, rfl, a, ns, rfl, p2 rfl, fun H2 p g s sm np hp g0 s0 s1 => right_at (E := fun _ _ _ => False) hp g0 s0 s1 fun H3 st => ?_⟩
    have hDp : D ≠ p := fun z => by
      rw [← z, p1] at np
      cases np
    refine ⟨[], st D _ hDp (sm _ _ p1), by decide, upd_same, fun z => absurd z (by decide)⟩
  · obtain ⟨p1, p2⟩ := p
    exact ⟨D, [true], rfl, SqL.of p1, q H1⟩
theorem sc_law : FnScope ["_law_script", "_law_turn"] ["_law_script"] (defScope (topS 135)) := ⟨rfl, rfl, rfl, by decide +kernel, rfl, by decide +kernel, by decide +kernel⟩
theorem k_law (c : Fx P w K mg base) {fd : FuncData} (F : FunD K "law" "law" (defArgs (topS 135)) (defBody (topS 135)) (defScope (topS 135)) [] [] (He.ga K "law") fd) {B : Around} {out : List Env} {t : Shared} {H : Hp} {a : Addr} {Q : VK} {E : XK} (hr : Room 14 B) (hgd : B.guards = some []) (e0 : Env0 P w K mg base B out t H) (hsp : spLaw K [.ref a] H Q E) :
    codeAny (model P w) B (.call (.ref (He.ga K "law")) ⟨[.ref a], []⟩) (CR CX0 out P w H t Q E) t := by
  have sc := sc_law
  obtain ⟨fd1, m1, F1, kp1, B1⟩ := k_rounds c
  obtain ⟨fd2, m2, F2, kp2, B2⟩ := k_well c
  have bd := FunD.bindsA (ps := ["_law_script"]) F fun _ _ _ _ _ _ us hl => match us, hl with | [_], _ => rfl
  refine run_at (us := [.ref a]) (vs := [.ref a]) F sc rfl hr e0 (bd t [.ref a] rfl) (.cons rfl .nil) fun cdv room => ⟨t_law K, PSs.nox (pss_one (ps_ret (pe_callB (cr_all rfl) rfl c.f_all b_all (pa_cons (pe_lc (own := [("_law_turn", 1)]) (g := L2.gName 1) (tt := tYes) rfl sc.nd (pi_range1 rfl c.f_range (pa_cons (pe_call F1 (room.mono (by decide)) rfl m1 kp1 B1 .nil pass0 (pa_cons (pv 0) (pa_cons pe_int (pa_cons pe_int pa_nil)))) pa_nil)) (blkOk_by (by show blkC ["_law_script", "_law_turn"] (defScope (topS 135)) _ _ = true; decide +kernel)) (fun _ _ _ _ _ => pg_name (i := 1) sc.nd rfl (.inl rfl)) (fun _ _ _ _ _ => pts_nil) (fun _ _ _ _ _ => ?_)) pa_nil)))), law_read hsp⟩
  exact e_right c room hgd (pa_cons (pe_call F2 (room.mono (by decide)) rfl m2 kp2 B2 .nil pass0 (pa_cons (pv 0) (pa_cons (pv 1) pa_nil))) pa_nil)
end
end Sp
/-! HDX: the facts as the walks want them. -/
namespace Sp
open PySem PySem.Spec PyProof.Rows L2
section
variable {P : Program} {w : World} {K : PySem.W.Frag} {mg : Str → Option Value} {h base : Heap}
theorem df_of (X : K.In h) (G : h.Ns mainGlobals mg) (c : He.SaysD hF hD K) (x : Str) (i k l : Nat) (h1 : hF[k]? = some (.glo x) := by rfl) (h2 : hD[l]? = some (dD x i) := by rfl) : DF K mg x i := by
  obtain ⟨fd, F⟩ := c.def_ l (d := dD x i) h2
  exact ⟨fd, He.glo_ok X G (c.fact k (f := .glo x) h1), F⟩
theorem gc_tup {x : Str} {vs : List He.Dv} {as : List A} (hm : mg x = some (.ref (He.ga K x))) (h : He.tupB K x vs = true) (r : ∀ e H, Reps K e H as (vs.map (He.Dv.v K))) : GC K mg x (.ref (He.ga K x)) (.tup as) :=
  ⟨_, hm, rfl, fun e H => ⟨He.ga K x, _, rfl, .inr (He.tupB_ok h _), r e H⟩⟩
theorem gc_int {x : Str} {i : Int} (h : ∃ t, mg x = some (.int i t)) : GC K mg x (.int i) (.int i) := by
  obtain ⟨t, h⟩ := h
  exact ⟨_, h, ⟨t, rfl⟩, fun _ _ => rfl⟩
theorem fx_of (X : K.In h) (G : h.Ns mainGlobals mg) (c0 : He.SaysT hF hD hT w K ∧ hX K = true) : Fx P w K mg base := by
  have c := c0.1.d
  have ex : ∀ (i : Nat) (b : Bool), (hE K)[i]? = some b → b = true := fun i b hb => List.all_eq_true.mp c0.2 b (List.mem_of_getElem? hb)
  have gZERO : GC K mg "ZERO" (.ref (He.ga K "ZERO")) cZERO := gc_tup (He.glo_ok X G (c.fact 100 (f := .glo "ZERO") rfl)) (ex 0 _ rfl) (fun e H => ⟨_, _, rfl, rfl, _, _, rfl, rfl, rfl⟩)
  have gONE : GC K mg "ONE" (.ref (He.ga K "ONE")) cONE := gc_tup (He.glo_ok X G (c.fact 101 (f := .glo "ONE") rfl)) (ex 1 _ rfl) (fun e H => ⟨_, _, rfl, rfl, _, _, rfl, rfl, rfl⟩)
  have gFOUR : GC K mg "FOUR" (.ref (He.ga K "FOUR")) cFOUR := gc_tup (He.glo_ok X G (c.fact 102 (f := .glo "FOUR") rfl)) (ex 2 _ rfl) (fun e H => ⟨_, _, rfl, rfl, _, _, rfl, rfl, rfl⟩)
  have gTWO : GC K mg "TWO" (.ref (He.ga K "TWO")) cTWO := gc_tup (He.glo_ok X G (c.fact 103 (f := .glo "TWO") rfl)) (ex 3 _ rfl) (fun e H => ⟨_, _, rfl, rfl, _, _, rfl, rfl, rfl⟩)
  have gPLACED : GC K mg "PLACED" (.ref (He.ga K "PLACED")) cPLACED := gc_tup (He.glo_ok X G (c.fact 104 (f := .glo "PLACED") rfl)) (ex 4 _ rfl) (fun e H => ⟨_, _, rfl, rfl, _, _, rfl, rfl, rfl⟩)
  have gSTEEP : GC K mg "STEEP" (.ref (He.ga K "STEEP")) cSTEEP := gc_tup (He.glo_ok X G (c.fact 105 (f := .glo "STEEP") rfl)) (ex 5 _ rfl) (fun e H => ⟨_, _, rfl, rfl, _, _, rfl, rfl, rfl⟩)
  have gBENT : GC K mg "BENT" (.ref (He.ga K "BENT")) cBENT := gc_tup (He.glo_ok X G (c.fact 106 (f := .glo "BENT") rfl)) (ex 6 _ rfl) (fun e H => ⟨_, _, rfl, rfl, _, _, rfl, rfl, _, _, rfl, rfl, rfl⟩)
  have gLEAST : GC K mg "LEAST" (.ref (He.ga K "LEAST")) cLEAST := gc_tup (He.glo_ok X G (c.fact 107 (f := .glo "LEAST") rfl)) (ex 7 _ rfl) (fun e H => ⟨_, _, rfl, rfl, _, _, rfl, rfl, _, _, rfl, rfl, _, _, rfl, rfl, _, _, rfl, rfl, rfl⟩)
  have gNOTHING : GC K mg "NOTHING" (.ref (He.ga K "NOTHING")) cNOTHING := gc_tup (He.glo_ok X G (c.fact 108 (f := .glo "NOTHING") rfl)) (ex 8 _ rfl) (fun e H => ⟨_, _, rfl, gZERO.elim fun _ z => z.2.2 e H, _, _, rfl, gZERO.elim fun _ z => z.2.2 e H, _, _, rfl, gZERO.elim fun _ z => z.2.2 e H, rfl⟩)
  exact {
    f_isinstance := He.free_ok X G (c.fact 111 (f := .free "isinstance") rfl)
    f_int := He.free_ok X G (c.fact 112 (f := .free "int") rfl)
    f_bool := He.free_ok X G (c.fact 113 (f := .free "bool") rfl)
    f_str := He.free_ok X G (c.fact 114 (f := .free "str") rfl)
    f_tuple := He.free_ok X G (c.fact 115 (f := .free "tuple") rfl)
    f_len := He.free_ok X G (c.fact 116 (f := .free "len") rfl)
    f_all := He.free_ok X G (c.fact 117 (f := .free "all") rfl)
    f_range := He.free_ok X G (c.fact 118 (f := .free "range") rfl)
    f_zip := He.free_ok X G (c.fact 119 (f := .free "zip") rfl)
    f_enumerate := He.free_ok X G (c.fact 120 (f := .free "enumerate") rfl)
    f_max := He.free_ok X G (c.fact 121 (f := .free "max") rfl)
    f_min := He.free_ok X G (c.fact 122 (f := .free "min") rfl)
    f_abs := He.free_ok X G (c.fact 123 (f := .free "abs") rfl)
    f_divmod := He.free_ok X G (c.fact 124 (f := .free "divmod") rfl)
    f_repr := He.free_ok X G (c.fact 125 (f := .free "repr") rfl)
    g_gcd := PySem.W.mg_of X G (He.eqO_ok (ex 10 _ rfl))
    g_isqrt := PySem.W.mg_of X G (He.eqO_ok (ex 11 _ rfl))
    ZERO := gZERO
    ONE := gONE
    FOUR := gFOUR
    TWO := gTWO
    MOST_ASKS := gc_int (He.int_ok X G (c.fact 126 (f := .int "MOST_ASKS" 8) rfl))
    PLACED := gPLACED
    STEEP := gSTEEP
    BENT := gBENT
    LEAST := gLEAST
    NOTHING := gNOTHING
    MOST_GUARDS := gc_int (He.int_ok X G (c.fact 127 (f := .int "MOST_GUARDS" 8) rfl))
    PASSED := He.glo_ok X G (c.fact 110 (f := .glo "PASSED") rfl)
    passed := c0.1.tab 0 rfl
    p_post := He.valsB_ok (q := ("post", .str "over")) (ex 9 _ rfl) (.head _)
    p_curtain := He.valsB_ok (q := ("curtain", .str "under")) (ex 9 _ rfl) (.tail _ (.head _))
    cls := He.cls_ok (c.fact 128 (f := .cls "Bounds") rfl)
    no_lowers := He.noat_ok (c.fact 129 (f := .noat "Bounds" "lowers") rfl)
    no_uppers := He.noat_ok (c.fact 130 (f := .noat "Bounds" "uppers") rfl)
    no_let := He.noat_ok (c.fact 131 (f := .noat "Bounds" "let") rfl)
    Bounds := He.glo_ok X G (c.fact 109 (f := .glo "Bounds") rfl)
    mk_ := He.mkr_ok (c.fact 132 (f := .mkr "Bounds") rfl)
    stretch_ := He.meth_ok (c.fact 133 (f := .meth "Bounds" "stretch") rfl)
    d_init := c.def_ 100 rfl
    d_stretch := c.def_ 101 rfl
    d_is_whole := df_of X G c "is_whole" 2 0 0
    d_are_wholes := df_of X G c "are_wholes" 3 1 1
    d_divisor_of := df_of X G c "divisor_of" 4 2 2
    d_is_reduced := df_of X G c "is_reduced" 5 3 3
    d_sign_of := df_of X G c "sign_of" 6 4 4
    d_is_ratio := df_of X G c "is_ratio" 10 5 5
    d_ratio := df_of X G c "ratio" 11 6 6
    d_ratio_sum := df_of X G c "ratio_sum" 12 7 7
    d_ratio_less := df_of X G c "ratio_less" 13 8 8
    d_ratio_product := df_of X G c "ratio_product" 14 9 9
    d_ratio_over := df_of X G c "ratio_over" 15 10 10
    d_ratio_back := df_of X G c "ratio_back" 16 11 11
    d_is_lower := df_of X G c "is_lower" 17 12 12
    d_is_spot := df_of X G c "is_spot" 21 13 13
    d_is_ahead := df_of X G c "is_ahead" 22 14 14
    d_far_of := df_of X G c "far_of" 23 15 15
    d_tall_of := df_of X G c "tall_of" 24 16 16
    d_is_nearer := df_of X G c "is_nearer" 25 17 17
    d_way_between := df_of X G c "way_between" 26 18 18
    d_square_root := df_of X G c "square_root" 28 19 19
    d_plain := df_of X G c "plain" 29 20 20
    d_surd_from := df_of X G c "surd_from" 30 21 21
    d_sign_of_one := df_of X G c "sign_of_one" 31 22 22
    d_sign_of_two := df_of X G c "sign_of_two" 32 23 23
    d_compared := df_of X G c "compared" 33 24 24
    d_lower_surd := df_of X G c "lower_surd" 34 25 25
    d_higher_surd := df_of X G c "higher_surd" 35 26 26
    d_bent_less := df_of X G c "bent_less" 37 27 27
    d_roots_of := df_of X G c "roots_of" 38 28 28
    d_is_asking := df_of X G c "is_asking" 47 29 29
    d_is_steep := df_of X G c "is_steep" 48 30 30
    d_is_least := df_of X G c "is_least" 49 31 31
    d_line_under := df_of X G c "line_under" 50 32 32
    d_joined := df_of X G c "joined" 51 33 33
    d_roof_bound := df_of X G c "roof_bound" 52 34 34
    d_parts_of := df_of X G c "parts_of" 53 35 35
    d_head_parts := df_of X G c "head_parts" 54 36 36
    d_slopes_let := df_of X G c "slopes_let" 57 37 37
    d_check_head := df_of X G c "check_head" 66 38 38
    d_check_place := df_of X G c "check_place" 67 39 39
    d_check_asks := df_of X G c "check_asks" 68 40 40
    d_as_surd := df_of X G c "as_surd" 71 41 41
    d_met := df_of X G c "met" 72 42 42
    d_spread := df_of X G c "spread" 73 43 43
    d_kept_side := df_of X G c "kept_side" 74 44 44
    d_below_stretch := df_of X G c "below_stretch" 75 45 45
    d_slopes_of := df_of X G c "slopes_of" 77 46 46
    d_check_target := df_of X G c "check_target" 79 47 47
    d_with_place := df_of X G c "with_place" 80 48 48
    d_is_guard := df_of X G c "is_guard" 84 49 49
    d_check_guards := df_of X G c "check_guards" 85 50 50
    d_check_guarded := df_of X G c "check_guarded" 86 51 51
    d_guards_hold := df_of X G c "guards_hold" 87 52 52
    d_is_guarded := df_of X G c "is_guarded" 88 53 53
    d_fewest_guards := df_of X G c "fewest_guards" 89 54 54
    d__law_well := df_of X G c "_law_well" 91 55 55
    d__law_draw := df_of X G c "_law_draw" 92 56 56
    d__law_rounds := df_of X G c "_law_rounds" 93 57 57
    d__law_pick := df_of X G c "_law_pick" 94 58 58
    d__law_common := df_of X G c "_law_common" 95 59 59
    d__law_lean := df_of X G c "_law_lean" 96 60 60
    d__law_ratio := df_of X G c "_law_ratio" 97 61 61
    d__law_plus := df_of X G c "_law_plus" 98 62 62
    d__law_less := df_of X G c "_law_less" 99 63 63
    d__law_times := df_of X G c "_law_times" 100 64 64
    d__law_over := df_of X G c "_law_over" 101 65 65
    d__law_sign := df_of X G c "_law_sign" 102 66 66
    d__law_root_sign := df_of X G c "_law_root_sign" 103 67 67
    d__law_surd_order := df_of X G c "_law_surd_order" 104 68 68
    d__law_plain := df_of X G c "_law_plain" 105 69 69
    d__law_place := df_of X G c "_law_place" 106 70 70
    d__law_apart := df_of X G c "_law_apart" 107 71 71
    d__law_high := df_of X G c "_law_high" 108 72 72
    d__law_steep := df_of X G c "_law_steep" 109 73 73
    d__law_own_head := df_of X G c "_law_own_head" 110 74 74
    d__law_line := df_of X G c "_law_line" 111 75 75
    d__law_bound := df_of X G c "_law_bound" 112 76 76
    d__law_place_bound := df_of X G c "_law_place_bound" 113 77 77
    d__law_roof_parts := df_of X G c "_law_roof_parts" 114 78 78
    d__law_parts := df_of X G c "_law_parts" 115 79 79
    d__law_head_part := df_of X G c "_law_head_part" 116 80 80
    d__law_span := df_of X G c "_law_span" 117 81 81
    d__law_pair_span := df_of X G c "_law_pair_span" 118 82 82
    d__law_spans := df_of X G c "_law_spans" 119 83 83
    d__law_slopes := df_of X G c "_law_slopes" 120 84 84
    d__law_size := df_of X G c "_law_size" 121 85 85
    d__law_part := df_of X G c "_law_part" 122 86 86
    d__law_jet := df_of X G c "_law_jet" 123 87 87
    d__law_slack := df_of X G c "_law_slack" 124 88 88
    d__law_roof_near := df_of X G c "_law_roof_near" 125 89 89
    d__law_near_ask := df_of X G c "_law_near_ask" 126 90 90
    d__law_wet := df_of X G c "_law_wet" 127 91 91
    d__law_guard_asks := df_of X G c "_law_guard_asks" 128 92 92
    d__law_guarded := df_of X G c "_law_guarded" 129 93 93
    d__law_guards := df_of X G c "_law_guards" 130 94 94
    d__law_open_world := df_of X G c "_law_open_world" 131 95 95
    d__law_target := df_of X G c "_law_target" 132 96 96
    d__law_fewest := df_of X G c "_law_fewest" 133 97 97
    d__law_right := df_of X G c "_law_right" 134 98 98
    d_law := df_of X G c "law" 135 99 99
  }
end
end Sp
open PySem PySem.W PySem.Calls PyProof.Rows
theorem PySem.Challenge.cw_spoutlines_k76_whole_fewest_guards_holds : PySem.Challenge.rw_spoutlines_k76_whole_fewest_guards.Holds := by
  w_on; o_law
  refine HandSHeadRun.head_imp (r := OpenLaw.row PySem.Challenge.rw_spoutlines_k76_whole_fewest_guards) (q := Sp.hq) (H := Sp.hk) (ob := Sp.hO) (M := 8000) (loose := Sp.hN) (d := HandSHeadRun.topDef (OpenLaw.row PySem.Challenge.rw_spoutlines_k76_whole_fewest_guards).prog 135) (kwd := []) Sp.hO_eq Sp.run_all
    (by kernel_rfl) (by kernel_rfl) (by kernel_rfl) (by rfl) (by first | assumption | decide +kernel) (by decide +kernel) ⟨rfl, rfl, rfl, rfl, rfl, by decide +kernel⟩ ?hw ?hc
  case hw => w_witness2
  case hc =>
    refine Att.attach_call (l := PySem.Challenge.rw_spoutlines_k76_whole_fewest_guards) (n := 63) rfl (by kernel_rfl) fun w _ t mg mb fa _ _ _ _ a vs ns G Y _ _ _ hmg0 obj iv most gens => ?_
    obtain ⟨K, KX, c⟩ := Y
    have e : (HandSHeadRun.topDef (OpenLaw.row PySem.Challenge.rw_spoutlines_k76_whole_fewest_guards).prog 135).name = ("law" : PySem.Str) := by kernel_rfl
    rw [e] at hmg0
    obtain ⟨fd, hm, F⟩ := (Sp.fx_of (P := (PySem.Challenge.rw_spoutlines_k76_whole_fewest_guards).prog) (base := t.heap) KX G.T.g c).d_law
    cases hmg0.symm.trans hm
    exact Sp.law_at KX G.T.g G.T.b G.T.builtins G.T.nolimit gens obj iv (Nat.le_trans most (by decide)) fun base H _ _ env sq => Sp.k_law (Sp.fx_of (base := base) KX G.T.g c) F ⟨rfl, by decide, by decide⟩ rfl env ⟨a, ns, rfl, sq, fun _ => rfl⟩
