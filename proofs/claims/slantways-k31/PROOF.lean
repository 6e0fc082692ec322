import PyProof.Rows.All
import Wide.All
import OpenK.AllK
import Wide.FinOn
import HandS.Head3
import HandS.HeadHook2
import HandS.HeadNt
import HandS.HeadEnd
import HandS.GenList
import HandS.ForMost
import HandS.Comp
import HandS.Slots
import HandS.SlotsOwn
import HandS.Wide
import HandS.Walk
import HandS.Zip
import HandS.IsInst
import HandS.SortInts
import HandS.Gcd
import HandS.DictComp
import HandS.Defaults
import HandS.Flow
import HandS.TupAny
import HandS.Style
import HandS.WordsExc
import HandS.SortKw
import HandS.Deep
import KE.KTupSum
import KE.DataMinMax
import KE.KMathGC
import KE.KSortedM
import KE.SortData
import HandS.Star
import KE.GoesMore
import HandS.DictTup
import KE.KDictSum
import KE.KDictCopyH
import HandS.OwnEq
import PySem.Challenge.RW_slantways_k31_whole_counts_of_all_ways
/-! DKTop -/
set_option Elab.async false
namespace DK
open PySem
def topS (i : Nat) : Stmt := PySem.Challenge.pw_slantways_k31_whole_counts_of_all_ways.main.body.getD i (.Pass ⟨0, 0, 0, 0⟩)
end DK
/-! HA -/
set_option Elab.async false
set_option linter.all false
set_option maxRecDepth 100000
set_option maxHeartbeats 4000000
/-! The head's facts by names, and from them what every def promises (printed by genhead.py). -/
namespace DK
open PySem PySem.Spec PyProof.Rows L2
def dF (x : Str) (st : Stmt) : He5.DefA := ⟨fun K => He.ga K x, x, x, defArgs st, defBody st, defScope st, [], []⟩
def dM (C m q : Str) (st : Stmt) : He5.DefA := ⟨fun K => He.ma K (He.ga K C) m, m, q, defArgs st, defBody st, defScope st, [], []⟩
def dD (C m q : Str) (st : Stmt) : He5.DefA := ⟨fun K => He.ma K (He.ga K C) m, m, q, defArgs st, defBody st, defScope st, [.adr (He.dflAt (C, some m) 0)], []⟩
def dP (C f q : Str) (st : Stmt) : He5.DefA := ⟨fun K => He5.wf K (He.ga K C) "property" f, f, q, defArgs st, defBody st, defScope st, [], []⟩
def fnL : List He5.DefA := [
  dF "is_integer" (topS 13), dF "is_from" (topS 14), dF "require_from" (topS 15),
  dF "are_integers" (topS 16), dF "are_ascending" (topS 17), dM "Slope" "__init__" "Slope.__init__" (inClass (topS 22) 1),
  dF "levels_of" (topS 23), dF "is_text_of" (topS 24), dF "is_way_text" (topS 25),
  dF "require_slope" (topS 27), dF "require_coprime" (topS 28), dF "require_way" (topS 29),
  dP "Slope" "half" "Slope.half" (inClass (topS 22) 7), dM "Way" "__init__" "Way.__init__" (inClass (topS 26) 1), dP "Way" "text" "Way.text" (inClass (topS 26) 3),
  dM "Way" "__eq__" "Way.__eq__" (inClass (topS 26) 10), dF "count_of_ways" (topS 30), dF "can_step" (topS 31),
  dF "highest" (topS 33), dF "lowest" (topS 34), dF "are_gaps" (topS 37),
  dF "least_by" (topS 38), dD "Shelf" "__init__" "Shelf.__init__" (inClass (topS 40) 1), dP "Shelf" "slope" "Shelf.slope" (inClass (topS 40) 4),
  dP "Shelf" "gaps" "Shelf.gaps" (inClass (topS 40) 5), dP "Shelf" "rise_makers" "Shelf.rise_makers" (inClass (topS 40) 6), dF "is_member" (topS 41),
  dP "Shelf" "makers" "Shelf.makers" (inClass (topS 40) 8), dM "Shelf" "removable" "Shelf.removable" (inClass (topS 40) 13), dF "with_gap" (topS 42),
  dF "require_listed" (topS 44), dF "grown_from" (topS 45), dF "are_rows" (topS 49),
  dD "Heap" "__init__" "Heap.__init__" (inClass (topS 50) 1), dP "Heap" "rows" "Heap.rows" (inClass (topS 50) 3), dP "Heap" "size" "Heap.size" (inClass (topS 50) 4),
  dF "require_coprime_way" (topS 52), dF "room_rows" (topS 53), dF "room" (topS 54),
  dF "sky_rows" (topS 55), dF "sky" (topS 56), dF "is_paired" (topS 57),
  dF "paired_squares" (topS 58), dF "pairs" (topS 59), dF "free_numbers" (topS 60),
  dF "counts_of" (topS 61), dF "_law_ways_listed" (topS 66), dF "_law_squares_between" (topS 67),
  dF "_law_sky_rows" (topS 68), dF "_law_column_lengths" (topS 69), dF "_law_arm_and_leg" (topS 70),
  dF "_law_gaps_near" (topS 71), dF "_law_rest_makers" (topS 72), dF "_law_are_counts_right" (topS 73),
  dF "_law_are_free_right" (topS 74), dF "ways" (topS 32), dF "shelves" (topS 46),
  dF "_law_dice" (topS 63), dF "_law_roll" (topS 64), dF "_law_slope" (topS 65),
  dF "law" (topS 75)]
def faL : List He.Fa := [
  .free "isinstance", .free "int", .free "bool", .free "tuple", .free "str", .free "list",
  .free "all", .free "zip", .free "range", .free "enumerate", .free "sum", .free "len",
  .free "min", .free "max", .free "sorted", .free "abs", .int "GREATEST" (10 ^ 60), .int "MAX_SIDE" 60,
  .int "MAX_LISTED" 5000, .int "MAX_ROW" 60, .str "RISE" ⟨[114].toArray⟩, .str "STEP" ⟨[115].toArray⟩, .glo "is_integer", .glo "is_from",
  .glo "require_from", .glo "are_integers", .glo "are_ascending", .glo "levels_of", .glo "is_text_of", .glo "is_way_text",
  .glo "require_slope", .glo "require_coprime", .glo "require_way", .glo "count_of_ways", .glo "can_step", .glo "highest",
  .glo "lowest", .glo "are_gaps", .glo "least_by", .glo "is_member", .glo "with_gap", .glo "require_listed",
  .glo "grown_from", .glo "are_rows", .glo "require_coprime_way", .glo "room_rows", .glo "room", .glo "sky_rows",
  .glo "sky", .glo "is_paired", .glo "paired_squares", .glo "pairs", .glo "free_numbers", .glo "counts_of",
  .glo "_law_ways_listed", .glo "_law_squares_between", .glo "_law_sky_rows", .glo "_law_column_lengths", .glo "_law_arm_and_leg", .glo "_law_gaps_near",
  .glo "_law_rest_makers", .glo "_law_are_counts_right", .glo "_law_are_free_right", .glo "ways", .glo "shelves", .glo "_law_dice",
  .glo "_law_roll", .glo "_law_slope", .glo "law", .glo "Slope", .mkr "Slope", .glo "Way",
  .mkr "Way", .glo "Shelf", .mkr "Shelf", .glo "Heap", .mkr "Heap", .meth "Way" "__eq__",
  .meth "Shelf" "removable"]
def clsB (K : PySem.W.Frag) (x : Str) : Bool := PySem.W.plainGet K (He.ga K x) Str.empty && (PySem.W.isClsIn K (He.ga K x) && (PySem.W.plainOver K (He.ga K x) && (He.eqO (PySem.W.findIn K (.ref (He.ga K x)) "__setattr__") (some (some (.builtin "object.__setattr__"))) &&
  (He.eqO (PySem.W.findIn K (.ref (He.ga K x)) "__class__") (some (some (.builtin "object.__class__"))) && (He.eqO (PySem.W.specialIn K (.builtin "object.__class__") "__get__") (some (some (.builtin "getset_descriptor.__get__"))) && (decide (PySem.W.takesIn K (.builtin "object.__class__") = some true) && decide (PySem.W.mroIn K (He.ga K x) (.type "object") = some true)))))))
def slotB (K : PySem.W.Frag) (x f : Str) (i : Nat) : Bool := He.eqO (PySem.W.findIn K (.ref (He.ga K x)) f) (some (some (.ref (He.ma K (He.ga K x) f)))) && (He.eqO (PySem.W.specialIn K (.ref (He.ma K (He.ga K x) f)) "__get__") (some (some (.builtin "member_descriptor.__get__"))) && (decide (PySem.W.takesIn K (.ref (He.ma K (He.ga K x) f)) = some true) &&
  (decide (PySem.W.typeIn K (.ref (He.ma K (He.ga K x) f)) = some (.type "member_descriptor")) && (decide (PySem.W.slotIn K (He.ma K (He.ga K x) f) (He.ga K x) = some i) && decide (i < 1000)))))
def prpB (K : PySem.W.Frag) (x f : Str) : Bool := He.eqO (PySem.W.findIn K (.ref (He.ga K x)) f) (some (some (.ref (He.ma K (He.ga K x) f)))) && (He.eqO (PySem.W.specialIn K (.ref (He.ma K (He.ga K x) f)) "__get__") (some (some (.builtin "property.__get__"))) && (decide (PySem.W.takesIn K (.ref (He.ma K (He.ga K x) f)) = some true) &&
  (match PySem.W.recIn K (He.ma K (He.ga K x) f) "property" with
    | some (.ref _ :: _) => true
    | _ => false)))
def bltB (K : PySem.W.Frag) (x : Str) (b : String) : Bool := He.eqO (PySem.W.nsIn K mainGlobals x) (some (some (.builtin b)))
def exL (K : PySem.W.Frag) : List Bool := [
  clsB K "Slope", clsB K "Way", clsB K "Shelf", clsB K "Heap",
  slotB K "Slope" "own_common" 0, slotB K "Slope" "own_rises" 1, slotB K "Slope" "own_steps" 2, slotB K "Way" "own_key" 0,
  slotB K "Way" "own_slope" 1, slotB K "Way" "own_text" 2, slotB K "Shelf" "own_gaps" 0, slotB K "Shelf" "own_least" 1,
  slotB K "Shelf" "own_slope" 2, slotB K "Heap" "own_key" 0, slotB K "Heap" "own_rows" 1, prpB K "Shelf" "slope",
  prpB K "Shelf" "gaps", prpB K "Shelf" "rise_makers", prpB K "Shelf" "makers", prpB K "Way" "text",
  prpB K "Heap" "rows", prpB K "Heap" "size", prpB K "Slope" "half", bltB K "gcd" "math.gcd",
  bltB K "comb" "math.comb"]
/-! ### the objects looked at, found by names -/
abbrev Lk := Addr → Option Obj
noncomputable section
def keyIs (l : List Nat) : Value → Bool
  | .str x _ => PySem.W.Fast.lEq x.cps.toList l
  | _ => false
def findE (l : List Nat) : List DictEntry → Addr
  | [] => 0
  | e :: r => match keyIs l e.key with
    | true => (match e.val with
      | .ref a => a
      | _ => 0)
    | false => findE l r
def refAt (g : Lk) (ns : Addr) (l : List Nat) : Addr := match g ns with
  | some ⟨_, _, .dict es _, _⟩ => findE l es.toList
  | _ => 0
def valA (v : Value) : List Addr := match v with
  | .ref a => [a]
  | _ => []
/-- a function, its code, its defaults -/
def fnP (g : Lk) (a : Addr) : List Addr := match g a with
  | some ⟨_, _, .func fd, _⟩ => a :: (valA fd.code ++ valA fd.defaults)
  | _ => [a]
/-- a member of a class: a function, a property and its function, a slot -/
def memP (g : Lk) (a : Addr) : List Addr := match g a with
  | some ⟨_, _, .fields vs, _⟩ => a :: (match vs.toList with
    | .ref f :: _ => fnP g f
    | _ => [])
  | _ => fnP g a
def clsP (g : Lk) (C : Addr) (ms : List (List Nat)) : List Addr := match g C with
  | some ⟨_, _, .cls cd, _⟩ => C :: cd.ns :: ms.flatMap fun l => memP g (refAt g cd.ns l)
  | _ => [C]
def fnC0 : List (List Nat) := [
  [105, 115, 95, 105, 110, 116, 101, 103, 101, 114], [105, 115, 95, 102, 114, 111, 109], [114, 101, 113, 117, 105, 114, 101, 95, 102, 114, 111, 109],
  [97, 114, 101, 95, 105, 110, 116, 101, 103, 101, 114, 115], [97, 114, 101, 95, 97, 115, 99, 101, 110, 100, 105, 110, 103], [108, 101, 118, 101, 108, 115, 95, 111, 102],
  [105, 115, 95, 116, 101, 120, 116, 95, 111, 102], [105, 115, 95, 119, 97, 121, 95, 116, 101, 120, 116], [114, 101, 113, 117, 105, 114, 101, 95, 115, 108, 111, 112, 101],
  [114, 101, 113, 117, 105, 114, 101, 95, 99, 111, 112, 114, 105, 109, 101], [114, 101, 113, 117, 105, 114, 101, 95, 119, 97, 121], [99, 111, 117, 110, 116, 95, 111, 102, 95, 119, 97, 121, 115]]
def fnC1 : List (List Nat) := [
  [99, 97, 110, 95, 115, 116, 101, 112], [104, 105, 103, 104, 101, 115, 116], [108, 111, 119, 101, 115, 116],
  [97, 114, 101, 95, 103, 97, 112, 115], [108, 101, 97, 115, 116, 95, 98, 121], [105, 115, 95, 109, 101, 109, 98, 101, 114],
  [119, 105, 116, 104, 95, 103, 97, 112], [114, 101, 113, 117, 105, 114, 101, 95, 108, 105, 115, 116, 101, 100], [103, 114, 111, 119, 110, 95, 102, 114, 111, 109],
  [97, 114, 101, 95, 114, 111, 119, 115], [114, 101, 113, 117, 105, 114, 101, 95, 99, 111, 112, 114, 105, 109, 101, 95, 119, 97, 121], [114, 111, 111, 109, 95, 114, 111, 119, 115]]
def fnC2 : List (List Nat) := [
  [114, 111, 111, 109], [115, 107, 121, 95, 114, 111, 119, 115], [115, 107, 121],
  [105, 115, 95, 112, 97, 105, 114, 101, 100], [112, 97, 105, 114, 101, 100, 95, 115, 113, 117, 97, 114, 101, 115], [112, 97, 105, 114, 115],
  [102, 114, 101, 101, 95, 110, 117, 109, 98, 101, 114, 115], [99, 111, 117, 110, 116, 115, 95, 111, 102], [95, 108, 97, 119, 95, 119, 97, 121, 115, 95, 108, 105, 115, 116, 101, 100],
  [95, 108, 97, 119, 95, 115, 113, 117, 97, 114, 101, 115, 95, 98, 101, 116, 119, 101, 101, 110], [95, 108, 97, 119, 95, 115, 107, 121, 95, 114, 111, 119, 115], [95, 108, 97, 119, 95, 99, 111, 108, 117, 109, 110, 95, 108, 101, 110, 103, 116, 104, 115]]
def fnC3 : List (List Nat) := [
  [95, 108, 97, 119, 95, 97, 114, 109, 95, 97, 110, 100, 95, 108, 101, 103], [95, 108, 97, 119, 95, 103, 97, 112, 115, 95, 110, 101, 97, 114], [95, 108, 97, 119, 95, 114, 101, 115, 116, 95, 109, 97, 107, 101, 114, 115],
  [95, 108, 97, 119, 95, 97, 114, 101, 95, 99, 111, 117, 110, 116, 115, 95, 114, 105, 103, 104, 116], [95, 108, 97, 119, 95, 97, 114, 101, 95, 102, 114, 101, 101, 95, 114, 105, 103, 104, 116], [119, 97, 121, 115],
  [115, 104, 101, 108, 118, 101, 115], [95, 108, 97, 119, 95, 100, 105, 99, 101], [95, 108, 97, 119, 95, 114, 111, 108, 108],
  [95, 108, 97, 119, 95, 115, 108, 111, 112, 101], [108, 97, 119]]
def memCSlope : List (List Nat) := [
  [95, 95, 105, 110, 105, 116, 95, 95], [104, 97, 108, 102], [111, 119, 110, 95, 99, 111, 109, 109, 111, 110], [111, 119, 110, 95, 114, 105, 115, 101, 115],
  [111, 119, 110, 95, 115, 116, 101, 112, 115]]
def memCWay : List (List Nat) := [
  [95, 95, 105, 110, 105, 116, 95, 95], [116, 101, 120, 116], [95, 95, 101, 113, 95, 95], [111, 119, 110, 95, 107, 101, 121],
  [111, 119, 110, 95, 115, 108, 111, 112, 101], [111, 119, 110, 95, 116, 101, 120, 116]]
def memCShelf : List (List Nat) := [
  [95, 95, 105, 110, 105, 116, 95, 95], [115, 108, 111, 112, 101], [103, 97, 112, 115], [114, 105, 115, 101, 95, 109, 97, 107, 101, 114, 115],
  [109, 97, 107, 101, 114, 115], [114, 101, 109, 111, 118, 97, 98, 108, 101], [111, 119, 110, 95, 103, 97, 112, 115], [111, 119, 110, 95, 108, 101, 97, 115, 116],
  [111, 119, 110, 95, 115, 108, 111, 112, 101]]
def memCHeap : List (List Nat) := [
  [95, 95, 105, 110, 105, 116, 95, 95], [114, 111, 119, 115], [115, 105, 122, 101], [111, 119, 110, 95, 107, 101, 121],
  [111, 119, 110, 95, 114, 111, 119, 115]]
def asP (g : Lk) : List Addr := mainGlobals :: ((fnC0.flatMap fun l => fnP g (refAt g mainGlobals l)) ++ ((fnC1.flatMap fun l => fnP g (refAt g mainGlobals l)) ++ ((fnC2.flatMap fun l => fnP g (refAt g mainGlobals l)) ++ ((fnC3.flatMap fun l => fnP g (refAt g mainGlobals l)) ++ (clsP g (refAt g mainGlobals [83, 108, 111, 112, 101]) memCSlope ++ (clsP g (refAt g mainGlobals [87, 97, 121]) memCWay ++ (clsP g (refAt g mainGlobals [83, 104, 101, 108, 102]) memCShelf ++ (clsP g (refAt g mainGlobals [72, 101, 97, 112]) memCHeap))))))))
end
def ctK (K : PySem.W.Frag) : Nat → Addr
  | 0 => He.ga K "Slope"
  | 1 => He.ga K "Way"
  | 2 => He.ga K "Shelf"
  | _ => He.ga K "Heap"
/-! ### the Hook -/
abbrev AlL : Type := He.AlD × Bool
def obsL (K : PySem.W.Frag) : AlL := (He5.obsA faL fnL K, (exL K).all id)
noncomputable def hookL : PySem.W.Hook where
  α := AlL
  obs := fun s => obsL (He.frG s.heap.get? (asP s.heap.get?))
  val := fun _ => (He5.valA fnL, true)
  says := fun _ h => ∃ K : PySem.W.Frag, K.In h ∧ He5.SaysA faL fnL K ∧ (exL K).all id = true
  of := fun _ _ e => ⟨_, He.frG_in, congrArg (fun z : AlL => z.1) e, congrArg (fun z : AlL => z.2) e⟩
  keeps := fun _ _ _ ⟨K, hK, c⟩ k => ⟨K, PySem.W.Frag.In.keeps hK k, c⟩
noncomputable def obL (s : PySem.W.SharedT) : AlL := obsL (He.frG (HandSHeadRun.getT s) (asP (HandSHeadRun.getT s)))
theorem obL_eq (s : PySem.W.SharedT) : obL s = hookL.obs s.abs := by
  have e : HandSHeadRun.getT s = s.abs.heap.get? := funext (HandSHeadRun.getT_eq s)
  show obsL (He.frG (HandSHeadRun.getT s) (asP (HandSHeadRun.getT s))) = obsL (He.frG s.abs.heap.get? (asP s.abs.heap.get?))
  rw [e]
def names0 : List PySem.Str := ["comb", "gcd", "_wall", "SlantError", "InvalidSlope", "InvalidWay", "InvalidShelf", "InvalidHeap", "InvalidNumber", "TooMany", "Refused", "GREATEST", "is_integer", "is_from", "require_from", "are_integers"]
def names1 : List PySem.Str := ["are_ascending", "MAX_SIDE", "RISE", "STEP", "Slope", "levels_of", "is_text_of", "is_way_text", "Way", "require_slope", "require_coprime", "require_way", "count_of_ways", "can_step", "ways", "highest"]
def names2 : List PySem.Str := ["lowest", "MAX_LISTED", "are_gaps", "least_by", "gaps_below", "Shelf", "is_member", "with_gap", "require_like_shelf", "require_listed", "grown_from", "shelves", "MAX_ROW", "are_rows", "Heap", "require_coprime_way"]
def names3 : List PySem.Str := ["room_rows", "room", "sky_rows", "sky", "is_paired", "paired_squares", "pairs", "free_numbers", "counts_of", "_law_dice", "_law_roll", "_law_slope", "_law_ways_listed", "_law_squares_between", "_law_sky_rows", "_law_column_lengths"]
def names4 : List PySem.Str := ["_law_arm_and_leg", "_law_gaps_near", "_law_rest_makers", "_law_are_counts_right", "_law_are_free_right"]
def names : List PySem.Str := names0 ++ names1 ++ names2 ++ names3 ++ names4
end DK
/-! HR -/
set_option Elab.async false
set_option linter.all false
set_option maxRecDepth 100000
set_option maxHeartbeats 0
/-! the top's run, looked at by hookL -/
namespace DK
open PySem PySem.Spec PyProof.Rows L2
abbrev RR : PySem.W.OpenRow := PySem.W.OpenLaw.row PySem.Challenge.rw_slantways_k31_whole_counts_of_all_ways
theorem top_run (w : World) : HandSHeadRun.RunEqI RR (PySem.W.view RR.prog [0, 75]) hookL obL 10000 names w := by
  unfold HandSHeadRun.RunEqI
  kernel_rfl
end DK
/-! GenFrame -/
set_option Elab.async false
set_option linter.all false
/-! A suspended generator that nobody wakes stays as it is: running from the state in which every suspended one is stuck proves it. -/
namespace GF
open PySem
open Sem (wp)

def stuck : Resume → Sem PySem.Fin := fun _ => .unsupported "stuck"
/-- Gp is G with the continuations at D made stuck -/
structure Rel (D : Nat → Prop) (Gp G : Array GenState) : Prop where
  size : Gp.size = G.size
  at_ : ∀ i, D i → ∃ k l c p fs cl, Gp[i]? = some (.suspended stuck l c p fs cl) ∧ G[i]? = some (.suspended k l c p fs cl)
  off : ∀ i, ¬ D i → Gp[i]? = G[i]?
  nog : ∀ i, ¬ D i → ∀ k l c p fs cl, G[i]? = some (.suspended k l c p fs cl) → splitAtGen fs = none

theorem no_unsup {M : Model} {Γ : Ctx} {p : Pos} {t : Sem PySem.Fin} {fs : List Frame} {s s' : Shared} {e : End} (h : Runs M Γ p t fs s e s') : ∀ w, t = .unsupported w → False := by
  induction h <;> intro w ht <;> first | (cases ht; done) | (rename_i ih _; exact ih w ht) | (rename_i ih; exact ih w ht) | skip
  all_goals first | (rename_i ih _ _; exact ih w ht) | (rename_i ih _ _ _; exact ih w ht)

def NoG : End → Prop
  | .ret _ => True
  | .susp _ _ _ _ _ _ fs => splitAtGen fs = none

theorem NoG.st {e : End} (h : NoG e) : ∀ k l c p fs cl, e.genState = .suspended k l c p fs cl → splitAtGen fs = none := fun k l c p fs cl q => by
  cases e with
  | ret x => cases q
  | susp v g l k c p fs => cases q; exact h
section
variable {D : Nat → Prop} {Gp G : Array GenState}
theorem Rel.seen (r : Rel D Gp G) {g : Nat} {st : GenState} (h : Gp[g]? = some st) : ∃ st', G[g]? = some st' ∧ st'.seen = st.seen := by
  by_cases d : D g
  · obtain ⟨k, l, c, p, fs, cl, h1, h2⟩ := r.at_ g d
    rw [h1] at h
    cases h
    exact ⟨_, h2, rfl⟩
  · exact ⟨st, (r.off g d).symm.trans h, rfl⟩
theorem Rel.live (r : Rel D Gp G) {g : Nat} {st : GenState} (h : Gp[g]? = some st) (ns : ∀ l c p fs cl, st ≠ .suspended stuck l c p fs cl) : ¬ D g ∧ G[g]? = some st := by
  have d : ¬ D g := fun d => by
    obtain ⟨k, l, c, p, fs, cl, h1, h2⟩ := r.at_ g d
    rw [h1] at h
    cases h
    exact ns _ _ _ _ _ rfl
  exact ⟨d, (r.off g d).symm.trans h⟩
theorem Rel.set (r : Rel D Gp G) {g : Nat} (d : ¬ D g) {x : GenState} (hx : ∀ k l c p fs cl, x = .suspended k l c p fs cl → splitAtGen fs = none) :
    Rel D (Gp.setIfInBounds g x) (G.setIfInBounds g x) ∧ ∀ i, D i → (G.setIfInBounds g x)[i]? = G[i]? := by
  have ne : ∀ i, D i → g ≠ i := fun i hi e => d (e ▸ hi)
  refine ⟨⟨by simp [r.size], fun i hi => ?_, fun i hi => ?_, fun i hi k l c p fs cl e => ?_⟩, fun i hi => Array.getElem?_setIfInBounds_ne (ne i hi)⟩
  · rw [Array.getElem?_setIfInBounds_ne (ne i hi), Array.getElem?_setIfInBounds_ne (ne i hi)]
    exact r.at_ i hi
  · by_cases e : g = i
    · subst e
      rw [Array.getElem?_setIfInBounds_self, Array.getElem?_setIfInBounds_self, r.size]
    · rw [Array.getElem?_setIfInBounds_ne e, Array.getElem?_setIfInBounds_ne e]
      exact r.off i hi
  · by_cases q : g = i
    · subst q
      rw [Array.getElem?_setIfInBounds_self] at e
      split at e
      · exact hx _ _ _ _ _ _ (Option.some.inj e)
      · cases e
    · rw [Array.getElem?_setIfInBounds_ne q] at e
      exact r.nog i hi _ _ _ _ _ _ e
theorem Rel.lt (r : Rel D Gp G) {i : Nat} (d : D i) : i < G.size := by
  obtain ⟨k, l, c, p, fs, cl, h1, h2⟩ := r.at_ i d
  exact (Array.getElem?_eq_some_iff.mp h2).1
theorem Rel.push (r : Rel D Gp G) {x : GenState} (hx : ∀ k l c p fs cl, x = .suspended k l c p fs cl → splitAtGen fs = none) :
    Rel D (Gp.push x) (G.push x) ∧ ∀ i, D i → (G.push x)[i]? = G[i]? := by
  have old : ∀ i, D i → (G.push x)[i]? = G[i]? := fun i d => by
    rw [Array.getElem?_push, if_neg (Nat.ne_of_lt (r.lt d))]
  have oldp : ∀ i, D i → (Gp.push x)[i]? = Gp[i]? := fun i d => by
    rw [Array.getElem?_push, if_neg (by rw [r.size]; exact Nat.ne_of_lt (r.lt d))]
  refine ⟨⟨by simp [r.size], fun i hi => ?_, fun i hi => ?_, fun i hi k l c p fs cl e => ?_⟩, old⟩
  · rw [old i hi, oldp i hi]
    exact r.at_ i hi
  · rw [Array.getElem?_push, Array.getElem?_push, r.size, r.off i hi]
  · rw [Array.getElem?_push] at e
    split at e
    · exact hx _ _ _ _ _ _ (Option.some.inj e)
    · exact r.nog i hi _ _ _ _ _ _ e
end

theorem split_cons {F : Frame} {fs : List Frame} (h : splitAtGen (F :: fs) = none) : splitAtGen fs = none := by
  cases F with
  | ret k hd g l c p kp =>
    have q : (splitAtGen fs).map (fun x => ((Frame.ret k hd g l c p kp) :: x.1, x.2.1, x.2.2)) = none := h
    cases e : splitAtGen fs with
    | none => rfl
    | some x =>
      rw [e] at q
      cases q
  | gen g k l c p => cases h
theorem split_ret {k hd g l c p kp} {fs : List Frame} (h : splitAtGen fs = none) : splitAtGen (Frame.ret k hd g l c p kp :: fs) = none := by
  show (splitAtGen fs).map _ = none
  rw [h]
  rfl
theorem split_app {a b : List Frame} (h : splitAtGen a = none) (h' : splitAtGen b = none) : splitAtGen (a ++ b) = none := by
  rw [splitAtGen_append_none _ h, h']
  rfl

/-- the run from the stuck state is a run from the true one -/
theorem runs_frame {M : Model} {D : Nat → Prop} {Γ : Ctx} {p : Pos} {t : Sem PySem.Fin} {fs : List Frame} {s s' : Shared} {e : End} (h : Runs M Γ p t fs s e s') :
    splitAtGen fs = none → ∀ G, Rel D s.gens G → ∃ G', Rel D s'.gens G' ∧ (∀ i, D i → G'[i]? = G[i]?) ∧ NoG e ∧ Runs M Γ p t fs { s with gens := G } e { s' with gens := G' } := by
  induction h with
  | done => exact fun _ G r => ⟨G, r, fun _ _ => rfl, trivial, .done⟩
  | raise => exact fun _ G r => ⟨G, r, fun _ _ => rfl, trivial, .raise⟩
  | again q _ ih =>
    intro hf G r
    obtain ⟨G', r', k, n, z⟩ := ih rfl G r
    exact ⟨G', r', k, n, .again q z⟩
  | rule _ ih =>
    intro hf G r
    obtain ⟨G', r', k, n, z⟩ := ih rfl G r
    exact ⟨G', r', k, n, .rule z⟩
  | «at» _ ih =>
    intro hf G r
    obtain ⟨G', r', k, n, z⟩ := ih rfl G r
    exact ⟨G', r', k, n, .at z⟩
  | load ho _ ih =>
    intro hf G r
    obtain ⟨G', r', k, n, z⟩ := ih rfl G r
    exact ⟨G', r', k, n, .load ho z⟩
  | update ho _ ih =>
    intro hf G r
    obtain ⟨G', r', k, n, z⟩ := ih rfl G r
    exact ⟨G', r', k, n, .update ho z⟩
  | loadIfAlive _ ih =>
    intro hf G r
    obtain ⟨G', r', k, n, z⟩ := ih rfl G r
    exact ⟨G', r', k, n, .loadIfAlive z⟩
  | point _ ih =>
    intro hf G r
    obtain ⟨G', r', k, n, z⟩ := ih rfl G r
    exact ⟨G', r', k, n, .point z⟩
  | alloc _ ih =>
    intro hf G r
    obtain ⟨G', r', k, n, z⟩ := ih rfl G r
    exact ⟨G', r', k, n, .alloc z⟩
  | fresh _ ih =>
    intro hf G r
    obtain ⟨G', r', k, n, z⟩ := ih rfl G r
    exact ⟨G', r', k, n, .fresh z⟩
  | ask _ ih =>
    intro hf G r
    obtain ⟨G', r', k, n, z⟩ := ih rfl G r
    exact ⟨G', r', k, n, .ask z⟩
  | choose hn _ ih =>
    intro hf G r
    obtain ⟨G', r', k, n, z⟩ := ih rfl G r
    exact ⟨G', r', k, n, .choose hn z⟩
  | os _ ih =>
    intro hf G r
    obtain ⟨G', r', k, n, z⟩ := ih rfl G r
    exact ⟨G', r', k, n, .os z⟩
  | handled _ ih =>
    intro hf G r
    obtain ⟨G', r', k, n, z⟩ := ih rfl G r
    exact ⟨G', r', k, n, .handled z⟩
  | genState hg _ ih =>
    intro hf G r
    obtain ⟨st', hs, es⟩ := r.seen hg
    obtain ⟨G', r', k, n, z⟩ := ih rfl G r
    exact ⟨G', r', k, n, .genState hs (es ▸ z)⟩
  | stack _ ih =>
    intro hf G r
    obtain ⟨G', r', k, n, z⟩ := ih rfl G r
    exact ⟨G', r', k, n, .stack z⟩
  | thread _ ih =>
    intro hf G r
    obtain ⟨G', r', k, n, z⟩ := ih rfl G r
    exact ⟨G', r', k, n, .thread z⟩
  | newGen _ ih =>
    intro hf G r
    obtain ⟨r1, k1⟩ := r.push (x := .fresh _) (fun _ _ _ _ _ _ q => by cases q)
    obtain ⟨G', r', k, n, z⟩ := ih rfl _ r1
    refine ⟨G', r', fun i d => (k i d).trans (k1 i d), n, .newGen ?_⟩
    rw [r.size] at z
    exact z
  | call _ _ ih1 ih2 =>
    intro hf G r
    obtain ⟨G1, r1, k1, _, z1⟩ := ih1 rfl G r
    obtain ⟨G', r', k, n, z⟩ := ih2 rfl G1 r1
    exact ⟨G', r', fun i d => (k i d).trans (k1 i d), n, .call z1 z⟩
  | callSusp _ ih =>
    intro hf G r
    obtain ⟨G', r', k, n, z⟩ := ih rfl G r
    exact ⟨G', r', k, split_app n (split_ret rfl), .callSusp z⟩
  | yield => exact fun _ G r => ⟨G, r, fun _ _ => rfl, rfl, .yield⟩
  | resumeFresh hg _ hq _ ih1 ih2 =>
    intro hf G r
    obtain ⟨d, hG⟩ := r.live hg (fun _ _ _ _ _ q => by cases q)
    obtain ⟨r0, k0⟩ := r.set d (x := .running) (fun _ _ _ _ _ _ q => by cases q)
    obtain ⟨G1, r1, k1, n1, z1⟩ := ih1 rfl _ r0
    obtain ⟨r2, k2⟩ := r1.set d n1.st
    obtain ⟨G', r', k, n, z⟩ := ih2 rfl _ r2
    exact ⟨G', r', fun i d => (k i d).trans ((k2 i d).trans ((k1 i d).trans (k0 i d))), n, .resumeFresh hG z1 hq z⟩
  | resumeSuspended hg hr hq _ ih1 ih2 =>
    intro hf G r
    obtain ⟨d, hG⟩ := r.live hg (fun _ _ _ _ _ q => by
      cases q
      exact no_unsup hr _ rfl)
    obtain ⟨r0, k0⟩ := r.set d (x := .running) (fun _ _ _ _ _ _ q => by cases q)
    obtain ⟨G1, r1, k1, n1, z1⟩ := ih1 (r.nog _ d _ _ _ _ _ _ hG) _ r0
    obtain ⟨r2, k2⟩ := r1.set d n1.st
    obtain ⟨G', r', k, n, z⟩ := ih2 rfl _ r2
    exact ⟨G', r', fun i d => (k i d).trans ((k2 i d).trans ((k1 i d).trans (k0 i d))), n, .resumeSuspended hG z1 hq z⟩
  | resumeJustStarted hg hv _ ih =>
    intro hf G r
    obtain ⟨d, hG⟩ := r.live hg (fun _ _ _ _ _ q => by cases q)
    obtain ⟨G', r', k, n, z⟩ := ih rfl G r
    exact ⟨G', r', k, n, .resumeJustStarted hG hv z⟩
  | resumeThrowFresh hg _ ih =>
    intro hf G r
    obtain ⟨d, hG⟩ := r.live hg (fun _ _ _ _ _ q => by cases q)
    obtain ⟨r0, k0⟩ := r.set d (x := .finished) (fun _ _ _ _ _ _ q => by cases q)
    obtain ⟨G', r', k, n, z⟩ := ih rfl _ r0
    exact ⟨G', r', fun i d => (k i d).trans (k0 i d), n, .resumeThrowFresh hG z⟩
  | resumeRunning hg _ ih =>
    intro hf G r
    obtain ⟨d, hG⟩ := r.live hg (fun _ _ _ _ _ q => by cases q)
    obtain ⟨G', r', k, n, z⟩ := ih rfl G r
    exact ⟨G', r', k, n, .resumeRunning hG z⟩
  | resumeFinished hg _ ih =>
    intro hf G r
    obtain ⟨d, hG⟩ := r.live hg (fun _ _ _ _ _ q => by cases q)
    obtain ⟨G', r', k, n, z⟩ := ih rfl G r
    exact ⟨G', r', k, n, .resumeFinished hG z⟩
  | segRet _ _ ih1 ih2 =>
    intro hf G r
    obtain ⟨G1, r1, k1, _, z1⟩ := ih1 rfl G r
    obtain ⟨G', r', k, n, z⟩ := ih2 (split_cons hf) G1 r1
    exact ⟨G', r', fun i d => (k i d).trans (k1 i d), n, .segRet z1 z⟩
  | segGen _ _ ih1 ih2 =>
    intro hf
    cases hf
  | segSuspOut hs _ ih =>
    intro hf G r
    obtain ⟨G', r', k, n, z⟩ := ih rfl G r
    exact ⟨G', r', k, split_app n hf, .segSuspOut hs z⟩
  | segSuspGen hs _ _ _ ih1 ih2 =>
    intro hf
    rw [hf] at hs
    cases hs

def SwapQ {α : Type} (D : Nat → Prop) (G : Array GenState) (Q : α → Shared → Prop) (a : α) (s' : Shared) : Prop :=
  ∃ G0, Rel D G0 s'.gens ∧ (∀ i, D i → s'.gens[i]? = G[i]?) ∧ Q a { s' with gens := G0 }

theorem swapQ_step {α : Type} {D : Nat → Prop} {G G1 : Array GenState} {Q : α → Shared → Prop} {a : α} {s' : Shared} (k : ∀ i, D i → G1[i]? = G[i]?) (h : SwapQ D G1 Q a s') : SwapQ D G Q a s' := by
  obtain ⟨G0, r, k', q⟩ := h
  exact ⟨G0, r, fun i d => (k' i d).trans (k i d), q⟩

theorem wp_frame {α : Type} {M : Model} {Γ : Ctx} {D : Nat → Prop} (Q : α → Shared → Prop) (E : Value → Shared → Prop) (t : Sem α) : ∀ (p : Pos) (s : Shared) (G : Array GenState), Rel D s.gens G → wp M Γ t (fun a _ s' => Q a s') (fun e _ s' => E e s') p s →
    wp M Γ t (fun a _ s' => SwapQ D G Q a s') (fun e _ s' => SwapQ D G E e s') p { s with gens := G } := by
  induction t with
  | pure a => exact fun p s G r h => ⟨s.gens, r, fun _ _ => rfl, h⟩
  | raise e => exact fun p s G r h => ⟨s.gens, r, fun _ _ => rfl, h⟩
  | unsupported _ => exact fun p s G r h => h.elim
  | finish _ => exact fun p s G r h => h.elim
  | register _ _ => exact fun p s G r h => h.elim
  | yield _ _ _ _ => exact fun p s G r h => h.elim
  | fork _ _ => exact fun p s G r h => h.elim
  | await _ _ _ _ _ => exact fun p s G r h => h.elim
  | rule _ k ih => exact fun p s G r h => ih () p s G r h
  | «at» p' k ih => exact fun p s G r h => ih () p' s G r h
  | load a _ k ih =>
    intro p s G r h
    obtain ⟨o, ho, h⟩ := h
    exact ⟨o, ho, ih o p s G r h⟩
  | update a _ f k ih => exact fun p s G r h => ⟨h.1, ih () p { s with heap := s.heap.update a f } G r h.2⟩
  | loadIfAlive a k ih => exact fun p s G r h => ih _ p s G r h
  | point _ k ih => exact fun p s G r h => ih () p s G r h
  | alloc o k ih => exact fun p s G r h => ih _ p { s with heap := s.heap.push o } G r h
  | fresh k ih => exact fun p s G r h => ih _ p { s with toks := s.toks + 1 } G r h
  | ask k ih => exact fun p s G r h => ih _ p s G r h
  | choose src m k ih => exact fun p s G r h => ⟨h.1, ih _ p { s with drawn := s.drawn.bump src } G r h.2⟩
  | os q _ k ih => exact fun p s G r h => ih _ p { s with os := (Os.step s.os q).1 } G r h
  | handled own k ih => exact fun p s G r h => ih _ p s G r h
  | stack k ih => exact fun p s G r h => ih _ p s G r h
  | thread k ih => exact fun p s G r h => ih _ p s G r h
  | call c hd _ _ k ih =>
    intro p s G r h
    obtain ⟨x, s', hr, h⟩ := h
    obtain ⟨G', r', k', _, z⟩ := runs_frame hr rfl G r
    have q := ih x p s' G' r' h
    exact ⟨x, _, z, Sem.wp_mono M Γ _ (fun _ _ _ y => swapQ_step k' y) (fun _ _ _ y => swapQ_step k' y) _ _ q⟩
  | genState g k ih =>
    intro p s G r h
    obtain ⟨st, hs, h⟩ := h
    obtain ⟨st', hs', es⟩ := r.seen hs
    refine ⟨st', hs', ?_⟩
    rw [es]
    exact ih _ p s G r h
  | newGen c k ih =>
    intro p s G r h
    obtain ⟨r1, k1⟩ := r.push (x := .fresh c) (fun _ _ _ _ _ _ q => by cases q)
    have q := ih _ p { s with gens := s.gens.push (.fresh c) } _ r1 h
    rw [r.size] at q
    exact Sem.wp_mono M Γ _ (fun _ _ _ y => swapQ_step k1 y) (fun _ _ _ y => swapQ_step k1 y) _ _ q
  | resume g r0 _ k ih =>
    intro p s G r h
    obtain ⟨res, s', hw, h⟩ := h
    have key : ∃ G', Rel D s'.gens G' ∧ (∀ i, D i → G'[i]? = G[i]?) ∧ Wakes M Γ p g r0 { s with gens := G } res { s' with gens := G' } := by
      unfold Wakes at hw
      split at hw
      · exact hw.elim
      · rename_i c hg
        obtain ⟨d, hG⟩ := r.live hg (fun _ _ _ _ _ q => by cases q)
        have hG' : ({ s with gens := G } : Shared).gens[g]? = some (.fresh c) := hG
        split at hw
        · obtain ⟨e₁, s₁, hr, hq, h1, rfl⟩ := hw
          obtain ⟨ra, ka⟩ := r.set d (x := .running) (fun _ _ _ _ _ _ q => by cases q)
          obtain ⟨G1, r1, k1, n1, z1⟩ := runs_frame hr rfl _ ra
          obtain ⟨r2, k2⟩ := r1.set d n1.st
          refine ⟨_, r2, fun i d => (k2 i d).trans ((k1 i d).trans (ka i d)), ?_⟩
          unfold Wakes
          rw [hG']
          exact ⟨e₁, _, z1, hq, h1, rfl⟩
        · obtain ⟨h1, rfl⟩ := hw
          refine ⟨G, r, fun _ _ => rfl, ?_⟩
          unfold Wakes
          rw [hG']
          rename_i v hne
          cases v <;> first | exact ⟨h1, rfl⟩ | exact (hne rfl).elim
        · obtain ⟨h1, rfl⟩ := hw
          obtain ⟨ra, ka⟩ := r.set d (x := .finished) (fun _ _ _ _ _ _ q => by cases q)
          refine ⟨_, ra, ka, ?_⟩
          unfold Wakes
          rw [hG']
          exact ⟨h1, rfl⟩
      · rename_i k₀ l₀ c₀ p₀ fs cl hg
        obtain ⟨e₁, s₁, hr, hq, h1, rfl⟩ := hw
        obtain ⟨d, hG⟩ := r.live hg (fun _ _ _ _ _ q => by
          cases q
          exact no_unsup hr _ rfl)
        have hG' : ({ s with gens := G } : Shared).gens[g]? = some (.suspended k₀ l₀ c₀ p₀ fs cl) := hG
        obtain ⟨ra, ka⟩ := r.set d (x := .running) (fun _ _ _ _ _ _ q => by cases q)
        obtain ⟨G1, r1, k1, n1, z1⟩ := runs_frame hr (r.nog _ d _ _ _ _ _ _ hG) _ ra
        obtain ⟨r2, k2⟩ := r1.set d n1.st
        refine ⟨_, r2, fun i d => (k2 i d).trans ((k1 i d).trans (ka i d)), ?_⟩
        unfold Wakes
        rw [hG']
        exact ⟨e₁, _, z1, hq, h1, rfl⟩
      · rename_i hg
        obtain ⟨h1, rfl⟩ := hw
        obtain ⟨d, hG⟩ := r.live hg (fun _ _ _ _ _ q => by cases q)
        have hG' : ({ s' with gens := G } : Shared).gens[g]? = some .running := hG
        refine ⟨G, r, fun _ _ => rfl, ?_⟩
        unfold Wakes
        rw [hG']
        exact ⟨h1, rfl⟩
      · rename_i hg
        obtain ⟨h1, rfl⟩ := hw
        obtain ⟨d, hG⟩ := r.live hg (fun _ _ _ _ _ q => by cases q)
        have hG' : ({ s' with gens := G } : Shared).gens[g]? = some .finished := hG
        refine ⟨G, r, fun _ _ => rfl, ?_⟩
        unfold Wakes
        rw [hG']
        exact ⟨h1, rfl⟩
    obtain ⟨G', r', k', z⟩ := key
    exact ⟨res, _, z, Sem.wp_mono M Γ _ (fun _ _ _ y => swapQ_step k' y) (fun _ _ _ y => swapQ_step k' y) _ _ (ih res p s' G' r' h)⟩

def poison : GenState → GenState
  | .suspended _ l c p fs cl => .suspended stuck l c p fs cl
  | x => x
def IsSusp (G : Array GenState) (i : Nat) : Prop := ∃ k l c p fs cl, G[i]? = some (.suspended k l c p fs cl)
theorem rel_poison (G : Array GenState) : Rel (IsSusp G) (G.map poison) G where
  size := by simp
  at_ := fun i ⟨k, l, c, p, fs, cl, e⟩ => ⟨k, l, c, p, fs, cl, by rw [Array.getElem?_map, e]; rfl, e⟩
  off := fun i n => by
    rw [Array.getElem?_map]
    cases e : G[i]? with
    | none => rfl
    | some x =>
      cases x with
      | suspended k l c p fs cl => exact (n ⟨k, l, c, p, fs, cl, e⟩).elim
      | fresh c => rfl
      | running => rfl
      | finished => rfl
  nog := fun i n k l c p fs cl e => (n ⟨k, l, c, p, fs, cl, e⟩).elim
theorem bare_poison {G : Array GenState} (h : PyProof.Rows.AllBare G) : PyProof.Rows.AllBare (G.map poison) := fun y hy => by
  obtain ⟨x, hx, rfl⟩ := Array.mem_map.mp hy
  have := h x hx
  cases x <;> exact this
theorem bare_rel {D : Nat → Prop} {Gp G : Array GenState} (r : Rel D Gp G) (h : PyProof.Rows.AllBare Gp) : PyProof.Rows.AllBare G := fun y hy => by
  obtain ⟨i, hi, q⟩ := Array.mem_iff_getElem.mp hy
  have e : G[i]? = some y := by rw [Array.getElem?_eq_getElem hi, q]
  by_cases d : D i
  · obtain ⟨k, l, c, p, fs, cl, h1, h2⟩ := r.at_ i d
    rw [h2] at e
    cases e
    have q2 := h _ (Array.mem_of_getElem? h1)
    exact q2
  · exact h y (Array.mem_of_getElem? ((r.off i d).trans e))

/-- THE RULE: what is shown from every state stands of the suspended generators' true states too -/
theorem wpAny_keep {α : Type} {M : Model} {A : Around} {t : Sem α} {Q : α → Shared → Prop} {E : Value → Shared → Prop} {s : Shared} (h : wpAny M A t Q E { s with gens := s.gens.map poison }) :
    wpAny M A t (fun a s' => ∃ G0, Rel (IsSusp s.gens) G0 s'.gens ∧ (∀ i, IsSusp s.gens i → s'.gens[i]? = s.gens[i]?) ∧ Q a { s' with gens := G0 })
      (fun a s' => ∃ G0, Rel (IsSusp s.gens) G0 s'.gens ∧ (∀ i, IsSusp s.gens i → s'.gens[i]? = s.gens[i]?) ∧ E a { s' with gens := G0 }) s := fun Γ p hΓ =>
  wp_frame Q E t p { s with gens := s.gens.map poison } s.gens (rel_poison s.gens) (h Γ p hΓ)
end GF
/-! HeapSize -/
set_option Elab.async false
set_option linter.all false
/-! The heap never shrinks. -/
namespace GF
open PySem
open Sem (wp)
theorem upd_size (h : Heap) (a : Addr) (f : Obj → Obj) : (h.update a f).objs.size = h.objs.size := by
  obtain ⟨o, l⟩ := h
  exact Array.size_modify
theorem push_size (h : Heap) (o : Obj) : (h.push o).objs.size = h.objs.size + 1 := by
  obtain ⟨x, l⟩ := h
  exact Array.size_push _
theorem runs_hsz {M : Model} {Γ : PySem.Ctx} {p : Pos} {t : Sem PySem.Fin} {fs : List Frame} {s s' : Shared} {e : End} (h : Runs M Γ p t fs s e s') : s.heap.objs.size ≤ s'.heap.objs.size := by
  induction h <;> (try simp only [Shared.setGen, upd_size, push_size] at *) <;> omega
theorem wakes_hsz {M : Model} {Γ : PySem.Ctx} {p : Pos} {g : Nat} {r : Resume} {s s' : Shared} {res : GenResult} (h : Wakes M Γ p g r s res s') : s.heap.objs.size ≤ s'.heap.objs.size := by
  unfold Wakes at h
  split at h
  · exact h.elim
  · split at h
    · obtain ⟨e₁, s₁, hr, _, _, rfl⟩ := h
      have q := runs_hsz hr
      exact q
    · rw [h.2]; exact Nat.le_refl _
    · rw [h.2]; exact Nat.le_refl _
  · obtain ⟨e₁, s₁, hr, _, _, rfl⟩ := h
    have q := runs_hsz hr
    exact q
  · rw [h.2]; exact Nat.le_refl _
  · rw [h.2]; exact Nat.le_refl _
theorem wp_hsz {α : Type} (M : Model) (Γ : PySem.Ctx) (n : Nat) (t : Sem α) : ∀ (Q : α → Pos → Shared → Prop) (E : Value → Pos → Shared → Prop) (p : Pos) (s : Shared), n ≤ s.heap.objs.size → wp M Γ t Q E p s →
    wp M Γ t (fun a p' s' => n ≤ s'.heap.objs.size ∧ Q a p' s') E p s := by
  induction t with
  | pure a => exact fun Q E p s hn h => ⟨hn, h⟩
  | raise e => exact fun Q E p s hn h => h
  | unsupported _ => exact fun Q E p s _ h => h
  | finish _ => exact fun Q E p s _ h => h
  | register _ _ => exact fun Q E p s _ h => h
  | yield _ _ _ _ => exact fun Q E p s _ h => h
  | fork _ _ => exact fun Q E p s _ h => h
  | await _ _ _ _ _ => exact fun Q E p s _ h => h
  | rule _ k ih => exact fun Q E p s hn h => ih () Q E p s hn h
  | «at» p' k ih => exact fun Q E p s hn h => ih () Q E p' s hn h
  | load a _ k ih =>
    intro Q E p s hn h
    obtain ⟨o, ho, h⟩ := h
    exact ⟨o, ho, ih o Q E p s hn h⟩
  | update a _ f k ih => exact fun Q E p s hn h => ⟨h.1, ih () Q E p { s with heap := s.heap.update a f } (by show n ≤ (s.heap.update a f).objs.size; rw [upd_size]; exact hn) h.2⟩
  | loadIfAlive a k ih => exact fun Q E p s hn h => ih _ Q E p s hn h
  | point _ k ih => exact fun Q E p s hn h => ih () Q E p s hn h
  | alloc o k ih => exact fun Q E p s hn h => ih _ Q E p { s with heap := s.heap.push o } (by show n ≤ (s.heap.push o).objs.size; rw [push_size]; omega) h
  | fresh k ih => exact fun Q E p s hn h => ih _ Q E p { s with toks := s.toks + 1 } hn h
  | ask k ih => exact fun Q E p s hn h => ih _ Q E p s hn h
  | choose src m k ih => exact fun Q E p s hn h => ⟨h.1, ih _ Q E p { s with drawn := s.drawn.bump src } hn h.2⟩
  | os q _ k ih => exact fun Q E p s hn h => ih _ Q E p { s with os := (Os.step s.os q).1 } hn h
  | handled own k ih => exact fun Q E p s hn h => ih _ Q E p s hn h
  | stack k ih => exact fun Q E p s hn h => ih _ Q E p s hn h
  | thread k ih => exact fun Q E p s hn h => ih _ Q E p s hn h
  | call c hd _ _ k ih =>
    intro Q E p s hn h
    obtain ⟨r, s', hr, h⟩ := h
    exact ⟨r, s', hr, ih r Q E p s' (Nat.le_trans hn (runs_hsz hr)) h⟩
  | genState g k ih =>
    intro Q E p s hn h
    obtain ⟨st, hs, h⟩ := h
    exact ⟨st, hs, ih _ Q E p s hn h⟩
  | newGen c k ih => exact fun Q E p s hn h => ih _ Q E p { s with gens := s.gens.push (.fresh c) } hn h
  | resume g r _ k ih =>
    intro Q E p s hn h
    obtain ⟨res, s', hw, h⟩ := h
    exact ⟨res, s', hw, ih res Q E p s' (Nat.le_trans hn (wakes_hsz hw)) h⟩
theorem wpAny_hsz {α : Type} {M : Model} {A : Around} {t : Sem α} {Q : α → Shared → Prop} {E : Value → Shared → Prop} {s : Shared} (h : wpAny M A t Q E s) : wpAny M A t (fun a s' => s.heap.objs.size ≤ s'.heap.objs.size ∧ Q a s') E s := fun Γ p hΓ =>
  wp_hsz M Γ s.heap.objs.size t _ _ p s (Nat.le_refl _) (h Γ p hΓ)
end GF
/-! GenLayer -/
set_option Elab.async false
set_option linter.all false
set_option maxRecDepth 100000
/-! A generator's body between two wakes, over the hand layer: each wake is like a call that finds its frame where it was left. -/
namespace GL
open PySem PySem.Spec PyProof.Rows L2

/-! ### a heap cut off -/
def cutH (h : Heap) (n : Nat) : Heap := ⟨h.objs.extract 0 n, h.life⟩
def cutHp (n : Nat) (H : Hp) : Hp := fun b => if b < n then H b else none
theorem cut_size (h : Heap) (n : Nat) : (cutH h n).objs.size = min n h.objs.size := by
  unfold cutH
  simp
theorem cut_get (h : Heap) (n b : Nat) : (cutH h n).get? b = if b < n then h.get? b else none := by
  unfold Heap.get? cutH
  by_cases q : b < n
  · rw [if_pos q]
    by_cases z : b < h.objs.size
    · have e1 : (h.objs.extract 0 n)[b]? = h.objs[b]? := by
        rw [Array.getElem?_extract]
        simp
        omega
      simp only [e1]
    · have e1 : (h.objs.extract 0 n)[b]? = none := by
        rw [Array.getElem?_eq_none_iff]
        simp
        omega
      have e2 : h.objs[b]? = none := by
        rw [Array.getElem?_eq_none_iff]
        omega
      simp only [e1, e2]
  · rw [if_neg q]
    have e1 : (h.objs.extract 0 n)[b]? = none := by
      rw [Array.getElem?_eq_none_iff]
      simp
      omega
    simp only [e1]
theorem of_cut {h : Heap} {n b : Nat} {o : Obj} (e : (cutH h n).get? b = some o) : b < n ∧ h.get? b = some o := by
  rw [cut_get] at e
  split at e
  · rename_i q
    exact ⟨q, e⟩
  · cases e
theorem to_cut {h : Heap} {n b : Nat} {o : Obj} (q : b < n) (e : h.get? b = some o) : (cutH h n).get? b = some o := by
  rw [cut_get, if_pos q, e]
theorem of_cutHp {n : Nat} {H : Hp} {b : Addr} {o : HO} (e : cutHp n H b = some o) : H b = some o := by
  unfold cutHp at e
  split at e
  · exact e
  · cases e
theorem funs_cut {h base : Heap} {n : Nat} : ∀ {l : List Env}, (∀ b ∈ frs l, b < n) → h.FunFrames base l → (cutH h n).FunFrames base l
  | [], _, _ => trivial
  | env :: r, hb, ⟨hk, ⟨L, o, hf, hn, ho, hd⟩, hr⟩ => by
    have hL : L < n := hb L (by
      unfold frs
      rw [List.filterMap_cons, hf]
      exact List.mem_cons_self)
    refine ⟨hk, ⟨L, o, hf, hn, to_cut hL ho, hd⟩, funs_cut (fun b z => hb b ?_) hr⟩
    unfold frs
    rw [List.filterMap_cons]
    cases env.frame with
    | none => exact z
    | some x => exact List.mem_cons_of_mem _ z

def noCell (o : Obj) : Prop := ∀ v, o.data ≠ .cell v
open Classical in
/-- what stands behind n and is nobody's, but at O and but cells -/
noncomputable def outs (O : List Addr) (n : Nat) (h : Heap) (H : Hp) : List (Addr × Obj) :=
  (List.range h.objs.size).filterMap fun b => if n ≤ b ∧ b ∉ O ∧ H b = none then (match h.get? b with
    | some o => if noCell o then some (b, o) else none
    | none => none) else none
theorem mem_outs {O : List Addr} {n : Nat} {h : Heap} {H : Hp} {b : Addr} {o : Obj} (h1 : n ≤ b) (h2 : b ∉ O) (h3 : H b = none) (h4 : h.get? b = some o) (h5 : noCell o) : (b, o) ∈ outs O n h H := by
  refine List.mem_filterMap.mpr ⟨b, List.mem_range.mpr (Heap.lt_size h4), ?_⟩
  rw [if_pos ⟨h1, h2, h3⟩, h4]
  dsimp only
  rw [if_pos h5]
theorem of_outs {O : List Addr} {n : Nat} {h : Heap} {H : Hp} {p : Addr × Obj} (hp : p ∈ outs O n h H) : n ≤ p.1 ∧ p.1 ∉ O ∧ H p.1 = none ∧ h.get? p.1 = some p.2 ∧ noCell p.2 := by
  obtain ⟨b, _, e⟩ := List.mem_filterMap.mp hp
  split at e
  · rename_i q
    cases g : h.get? b with
    | none =>
      rw [g] at e
      cases e
    | some o =>
      rw [g] at e
      dsimp only at e
      split at e
      · rename_i z
        cases e
        exact ⟨q.1, q.2.1, q.2.2, g, z⟩
      · cases e
  · cases e

/-! ### the generator's own data -/
structure GD where
  P : Program
  w : World
  K : PySem.W.Frag
  mg : Str → Option Value
  base : Heap
  N : List Str
  env : Env
  A : Around
  outer : List Env
abbrev GD.L (d : GD) : Addr := d.env.locals
/-- its body's context, woken at s0 -/
def GD.X (d : GD) (s0 : Shared) (H0 : Hp) : Cx where
  prog := d.P
  w := d.w
  K := d.K
  mg := d.mg
  base := d.base
  A := d.A.deeper d.env
  N := d.N
  s_0 := s0
  H_0 := H0
  env := d.env
  outer := d.outer
  stack := d.env :: d.outer
  ex := []
  fn := fun _ => true
  calm := true
  pn := []
  xe := fun _ _ => False
structure GD.Ok (d : GD) : Prop where
  frame : d.env.frame = some d.env.locals
  kind : d.env.scope.kind = .function
  glob : d.env.globals = mainGlobals
  blt : d.env.builtins = builtinsNs
  nocell : d.env.cells = []
  plain : ∀ x, d.env.kindOf x ≠ some .cell ∧ d.env.kindOf x ≠ some .free
  co : d.env.scope.isCoroutine = false
  hd : d.A.handled = none
  mod : Mod d.K d.mg d.base
  bsz : d.base.objs.size ≤ d.env.locals
  below : ∀ b ∈ frs d.outer, b < d.env.locals
/-- its variables stand -/
def Loc (d : GD) (σ : L2.St) (h : Heap) : Prop := σ.length = d.N.length ∧ ∃ m, h.Ns d.env.locals m ∧ ∀ (i : Nat) (x : Str) (v : V), d.N[i]? = some x → σ[i]? = some (some v) → Vis d.env.scope x → ∃ u, RelV v u ∧ Look d.env h m x u
/-- the state in which it was woken, as its entry -/
def GD.s0 (d : GD) (s : Shared) : Shared := { s with heap := cutH s.heap d.L }

section
variable {d : GD}
theorem Loc.of (ok : d.Ok) {σ : L2.St} {h h' : Heap} (l : Loc d σ h) (e : h'.get? d.L = h.get? d.L) : Loc d σ h' := by
  obtain ⟨hl, m, ⟨o, es, ep, ho, r⟩, q⟩ := l
  refine ⟨hl, m, ⟨o, es, ep, e.trans ho, r⟩, fun i x v e1 e2 e3 => ?_⟩
  obtain ⟨u, ru, lk⟩ := q i x v e1 e2 e3
  refine ⟨u, ru, ?_⟩
  rcases lk with lk | ⟨k, c, ec, _⟩
  · exact .inl lk
  · rw [ok.nocell] at ec
    cases ec
theorem wake (ok : d.Ok) {O : List Addr} {s : Shared} {σ : L2.St} {H : Hp} (e : Env0 d.P d.w d.K d.mg d.base d.A d.outer s H) (hL : H d.L = none) (hO : d.L ∈ O) (loc : Loc d σ s.heap) {ip : List (Addr × Obj)}
    (hip : ∀ p ∈ ip, s.heap.get? p.1 = some p.2 ∧ H p.1 = none ∧ p.1 ≠ d.L ∧ p.1 ∉ frs d.outer ∧ noCell p.2) :
    Inv (d.X (d.s0 s) (cutHp d.L H)) (outs O d.L s.heap H ++ ip) σ H s := by
  have noC : ∀ (x : Str) (c : Addr), d.env.cells.lookup x = some c → False := fun x c q => by
    rw [ok.nocell] at q
    cases q
  have noE : ∀ b : Addr, b ∉ (d.X (d.s0 s) (cutHp d.L H)).ex := fun b z => absurd (show b ∈ ([] : List Addr) from z) (by simp)
  have hLlt : d.L < s.heap.objs.size := let ⟨_, _, hn, _⟩ := loc; hn.lt
  refine ⟨⟨ok.mod, ok.kind, ok.glob, ok.blt, ?_, fun x y c h1 _ => (noC x c h1).elim, fun x h => ?_, fun x c _ h => (noC x c h).elim, fun _ => ok.hd, Around.frames_deeper e.frames, .inr ⟨rfl, ok.frame⟩,
      fun b z => absurd z (noE b), fun b o q => ?_, ?_, fun b _ _ => noE b, fun b z => absurd z (noE b), funs_cut ok.below e.funs, fun b hb => ?_⟩,
    rfl, e.bare, ⟨fun b o q _ _ _ => (of_cut q).2, fun b o q _ _ _ => ⟨o.slots, (of_cut q).2⟩, fun b o q n _ => ?_, fun b o q _ => ⟨o, (of_cut q).2⟩, fun b xs q => of_cutHp q, fun b o xs q => of_cutHp q, fun b ps q => ⟨#[], by rw [of_cutHp q]; simp⟩⟩,
    loc.2, fun x c h => (noC x c h).elim, hL, fun x c h => (noC x c h).elim, fun p hp => ?_, e.hok, loc.1⟩
  · show (cutH s.heap d.L).objs.size ≤ d.env.locals
    rw [cut_size]
    exact Nat.min_le_left _ _
  · rcases h with h | h
    · exact ((ok.plain x).1 h).elim
    · exact ((ok.plain x).2 h).elim
  · have hb : b < d.L := Nat.lt_of_lt_of_le (Heap.lt_size q) ok.bsz
    obtain ⟨q1, q2⟩ := e.bs b o q
    refine ⟨to_cut hb q1, ?_⟩
    show cutHp d.L H b = none
    unfold cutHp
    rw [if_pos hb, q2]
  · show d.base.objs.size ≤ (cutH s.heap d.L).objs.size
    rw [cut_size]
    exact Nat.le_min.mpr ⟨ok.bsz, e.bsz⟩
  · show cutHp d.L H b = none
    unfold cutHp
    split
    · exact e.frf b hb
    · rfl
  · have hb := (of_cut q).1
    have n' : cutHp d.L H b = none := n
    unfold cutHp at n'
    rw [if_pos hb] at n'
    exact n'
  · rcases List.mem_append.mp (show p ∈ [] ++ (outs O d.L s.heap H ++ ip) from hp) with z | z
    · cases z
    · rcases List.mem_append.mp z with z | z
      · obtain ⟨h1, h2, h3, h4, h5⟩ := of_outs z
        refine ⟨h4, h3, fun q => h2 (q ▸ hO), fun q => ?_, h5⟩
        exact absurd (ok.below _ q) (Nat.not_lt.mpr h1)
      · exact hip p z
end

/-! ### what a run from a wake leaves -/
structure Wk (d : GD) (O : List Addr) (H₀ H1 : Hp) (s₀ s' : Shared) : Prop where
  os : s'.os = s₀.os
  bare : AllBare s'.gens
  keep : ∀ b o, s₀.heap.get? b = some o → H₀ b = none → b ∉ O → (b < d.L ∨ noCell o) → H1 b = none ∧ (b ∉ frs d.outer → s'.heap.get? b = some o) ∧ ∃ sl, s'.heap.get? b = some { o with slots := sl }
  hok : HOk d.P d.w H1 s'.heap
  free : H1 d.L = none
/-- the tracked things stay, but the lists at W may be others -/
structure Chg (W : List Addr) (H H1 : Hp) : Prop where
  lists : ∀ b ∈ W, ∃ xs, H b = some (.lst xs)
  same : ∀ b o, H b = some o → b ∉ W → H1 b = some o
  still : ∀ b ∈ W, ∃ xs, H1 b = some (.lst xs)
/-- the tracked things that are no lists stay, and the lists at W -/
def Mild (W : List Addr) (H H' : Hp) : Prop := ∀ b o, H b = some o → (∀ xs, o = .lst xs → b ∈ W) → H' b = some o
theorem Mild.refl (W : List Addr) (H : Hp) : Mild W H H := fun _ _ e _ => e
theorem Mild.trans {W : List Addr} {H H1 H2 : Hp} (a : Mild W H H1) (b : Mild W H1 H2) : Mild W H H2 := fun c o e n => b c o (a c o e n) n
theorem Mild.of_same {W : List Addr} {H H1 : Hp} (a : Same H H1) : Mild W H H1 := fun c o e _ => a c o e

theorem wk_of {d : GD} {O : List Addr} {s₀ s' : Shared} {H₀ H1 : Hp} {σ : L2.St} {ip : List (Addr × Obj)} (ok : d.Ok) (I : Inv (d.X (d.s0 s₀) (cutHp d.L H₀)) (outs O d.L s₀.heap H₀ ++ ip) σ H1 s') : Wk d O H₀ H1 s₀ s' where
  os := I.os
  bare := I.bare
  hok := I.hok
  free := I.free
  keep := fun b o e n hO hc => by
    by_cases hb : b < d.L
    · have e' : (d.X (d.s0 s₀) (cutHp d.L H₀)).s_0.heap.get? b = some o := to_cut hb e
      have n' : (d.X (d.s0 s₀) (cutHp d.L H₀)).H_0 b = none := by
        show cutHp d.L H₀ b = none
        unfold cutHp
        rw [if_pos hb, n]
      have nx : b ∉ (d.X (d.s0 s₀) (cutHp d.L H₀)).ex := fun z => absurd (show b ∈ ([] : List Addr) from z) (by simp)
      exact ⟨I.base.free b o e' n' nx, fun hf => I.base.keep b o e' n' hf nx, I.base.any e' n' nx⟩
    · have hc' : noCell o := hc.elim (fun z => absurd z hb) fun z => z
      obtain ⟨h1, h2, _, h4, _⟩ := I.pin (b, o) (List.mem_append_right _ (List.mem_append_left _ (mem_outs (Nat.not_lt.mp hb) hO n e hc')))
      exact ⟨h2, fun _ => h1, o.slots, h1⟩
end GL
/-! GenSeg -/
set_option Elab.async false
set_option linter.all false
set_option maxRecDepth 100000
/-! Runs of a generator's code from one wake to the next yield. -/
namespace GL
open PySem PySem.Spec PyProof.Rows L2
open Sem (wp)

def SegW (M : Model) (A : Around) (F : End → Shared → Prop) (c : Code) (t : Sem PySem.Fin) (fs : List Frame) (s : Shared) : Prop :=
  ∀ (Γ : PySem.Ctx) (p : Pos), Γ.code = c → Γ.Woken A → ∃ e s', Runs M Γ p t fs s e s' ∧ F e s'

section
variable {M : Model} {A : Around} {F : End → Shared → Prop} {c : Code} {fs : List Frame} {s : Shared}
theorem segw_wrap {α : Type} {m : Sem α} {K : α → Sem PySem.Fin} {J : Value → Sem PySem.Fin} {gd : Bool → Bool} {lv : List Value → List Value} {E : Value → Shared → Prop}
    (h : wpAny M (A.over c fs) m (fun a s' => SegW M A F c (K a) fs s') E s) (hE : ∀ x s', E x s' → SegW M A F c (J x) fs s') : SegW M A F c (m.wrap K J gd lv) fs s := by
  intro Γ p hc hΓ
  subst hc
  exact runs_wrap_of_wp K J gd lv m (h (Γ.over fs) p (hΓ.over fs)) (fun a p' s' q => q Γ p' rfl hΓ) fun x p' s' q => hE x s' q Γ p' rfl hΓ
theorem segw_bind {α β : Type} {m : Sem α} {f : α → Sem β} {K : β → Sem PySem.Fin} {J : Value → Sem PySem.Fin} {gd : Bool → Bool} {lv : List Value → List Value}
    (h : wpAny M (A.over c fs) m (fun a s' => s.heap.objs.size ≤ s'.heap.objs.size → SegW M A F c ((f a).wrap K J gd lv) fs s') (fun _ _ => False) s) : SegW M A F c ((m >>= f).wrap K J gd lv) fs s := by
  rw [Sem.bind_eq_wrap', Sem.wrap_wrap]
  exact segw_wrap (thn (GF.wpAny_hsz h) fun a s' q => q.2 q.1) fun x s' q => q.elim
theorem segw_run {α : Type} {m : Sem α} {K : α → Sem PySem.Fin} {J : Value → Sem PySem.Fin} {gd : Bool → Bool} {lv : List Value → List Value}
    (h : wpAny M (A.over c fs) m (fun a s' => s.heap.objs.size ≤ s'.heap.objs.size → SegW M A F c (K a) fs s') (fun _ _ => False) s) : SegW M A F c (m.wrap K J gd lv) fs s :=
  segw_wrap (thn (GF.wpAny_hsz h) fun a s' q => q.2 q.1) fun x s' q => q.elim
theorem segw_at {p' : Pos} {k : Unit → Sem PySem.Fin} (h : SegW M A F c (k ()) fs s) : SegW M A F c (.at p' k) fs s :=
  segw_run (m := standAt p') (K := k) (J := .raise) (gd := id) (lv := id) (wpAny_standAt fun _ => h)
theorem segw_point {l : List Value} {k : Unit → Sem PySem.Fin} (h : SegW M A F c (k ()) fs s) : SegW M A F c (.point l k) fs s :=
  segw_run (m := point) (K := k) (J := .raise) (gd := id) (lv := fun _ => l) (wpAny_point fun _ => h)
theorem segw_call {c' : Code} {hm : Option Value} {g : Bool} {l : List Value} {k : Result → Sem PySem.Fin} (h : ∀ p, SegW M A F c' (M.den c') (.ret k hm g l c p [] :: fs) s) : SegW M A F c (.call c' hm g l k) fs s := by
  intro Γ p hc hΓ
  subst hc
  obtain ⟨e, s', hr, he⟩ := h p (Γ.goto c') p rfl (hΓ.goto c')
  exact ⟨e, s', runs_call_seg hr, he⟩
theorem segw_leaf {k : Result → Sem PySem.Fin} {hm : Option Value} {g : Bool} {l kp : List Value} {c₁ : Code} {p₁ : Pos} (r : Result) (h : SegW M A F c₁ (k r) fs s) : SegW M A F c (leafOf r) (.ret k hm g l c₁ p₁ kp :: fs) s := by
  intro Γ p hc hΓ
  subst hc
  obtain ⟨e, s', hr, he⟩ := h (Γ.goto c₁) p₁ rfl (hΓ.goto c₁)
  exact ⟨e, s', Runs.pop r hr, he⟩
theorem segw_again {c' : Code} (hq : c'.quiet = true) (h : SegW M A F c' (M.den c') fs s) : SegW M A F c (.pure (.again c')) fs s := by
  intro Γ p hc hΓ
  subst hc
  obtain ⟨e, s', hr, he⟩ := h (Γ.goto c') p rfl (hΓ.goto c')
  exact ⟨e, s', Runs.head (c₁ := c') (fun _ _ x => .again hq x) hr, he⟩
theorem segw_end (r : Result) (h : F (.ret r) s) : SegW M A F c (leafOf r) [] s := fun Γ p _ _ => ⟨.ret r, s, Runs.leaf r, h⟩
theorem segw_yield {v : Value} {g : Bool} {l : List Value} {k : Resume → Sem PySem.Fin} (hfs : splitAtGen fs = none) (h : ∀ p, F (.susp v g l k c p fs) s) : SegW M A F c (.yield v g l k) fs s := by
  intro Γ p hc _
  subst hc
  exact ⟨_, s, Runs.yield' fs hfs, h p⟩
end

/-! ### what a run ends in -/
structure Own (d : GD) (W O W1 O1 : List Addr) (H₀ H1 : Hp) (s₀ s' : Shared) : Prop where
  wl : ∀ b ∈ W1, (b ∈ W ∨ H₀ b = none) ∧ ∃ xs, H1 b = some (.lst xs)
  ol : ∀ b ∈ O1, (b ∈ O ∨ s₀.heap.objs.size ≤ b) ∧ H1 b = none ∧ ∃ o, s'.heap.get? b = some o ∧ noCell o
/-- the consumer has had its turn: the generator's own things are as they were -/
structure Back (d : GD) (W O : List Addr) (s' : Shared) (H1 : Hp) (s'' : Shared) (H2 : Hp) : Prop where
  own : ∀ b ∈ O, s''.heap.get? b = s'.heap.get? b ∧ H2 b = none
  mild : Mild W H1 H2
  env : Env0 d.P d.w d.K d.mg d.base d.A d.outer s'' H2
/-- from a wake: k items are out, It says which, n are to come out in all, m bounds what is to come -/
def GEnd (d : GD) (It : Nat → V → Hp → Prop) (n : Nat) : Nat → Nat → List Addr → List Addr → Hp → Shared → End → Shared → Prop
  | _, k, W, O, H₀, s₀, .ret r, s' => r = .ok (.ret .none) ∧ k = n ∧ ∃ H1, Wk d O H₀ H1 s₀ s' ∧ Chg W H₀ H1
  | 0, _, _, _, _, _, .susp .., _ => False
  | m + 1, k, W, O, H₀, s₀, .susp v gd l kk c p fs, s' => (End.susp v gd l kk c p fs).quiet = true ∧ k < n ∧ ∃ x H1 W1 O1, RelV x v ∧ It k x H1 ∧ Wk d O H₀ H1 s₀ s' ∧ Chg W H₀ H1 ∧ Own d W O W1 O1 H₀ H1 s₀ s' ∧ d.L ∈ O1 ∧
      ∀ s'' H2, Back d W1 O1 s' H1 s'' H2 → SegW (model d.P d.w) d.A (GEnd d It n m (k + 1) W1 O1 H2 s'') c (kk (.send .none)) fs s''

/-! ### statements -/
structure Wke where
  W : List Addr
  H : Hp
structure GEnds where
  nx : Nat → Wke → L2.St → Hp → Prop
  bk : Nat → Wke → L2.St → Hp → Prop := fun _ _ _ _ => False
  ct : Nat → Wke → L2.St → Hp → Prop := fun _ _ _ _ => False
abbrev TGn := GEnds → Nat → Wke → L2.St → Hp → Prop
def GEnds.at (D : GEnds) (k : Nat) (wk : Wke) : Ends := { nx := D.nx k wk, rt := fun _ _ => False, bk := D.bk k wk, ct := D.ct k wk }

/-- where the generator's code stands; ip: its own iterators, as they stand -/
structure At (d : GD) (ip : List (Addr × Obj)) (O₀ : List Addr) (wk : Wke) (s₀ : Shared) (σ : L2.St) (H : Hp) (s : Shared) : Prop where
  inv : Inv (d.X (d.s0 s₀) (cutHp d.L wk.H)) (outs O₀ d.L s₀.heap wk.H ++ ip) σ H s
  l0 : d.L ∈ O₀
  ipO : ∀ p ∈ ip, (p.1 ∈ O₀ ∨ s₀.heap.objs.size ≤ p.1)
  lz : d.L < s₀.heap.objs.size
  sz : s₀.heap.objs.size ≤ s.heap.objs.size
def GSP (d : GD) (ip : List (Addr × Obj)) (D : GEnds) (k : Nat) (wk : Wke) (O₀ : List Addr) (s₀ : Shared) (f : Flow) (s : Shared) : Prop :=
  match f with
  | .next => ∃ σ H, At d ip O₀ wk s₀ σ H s ∧ D.nx k wk σ H
  | .brk => ∃ σ H, At d ip O₀ wk s₀ σ H s ∧ D.bk k wk σ H
  | .cont => ∃ σ H, At d ip O₀ wk s₀ σ H s ∧ D.ct k wk σ H
  | .ret _ => False
structure Gc (d : GD) (c : Code) (fs : List Frame) (gd : Bool → Bool) : Prop where
  over : d.A.over c fs = d.A.deeper d.env
  split : splitAtGen fs = none
  guard : fs.any Frame.guarded = false
  gd : gd false = false
abbrev GSeg (d : GD) (It : Nat → V → Hp → Prop) (n m k : Nat) (wk : Wke) (O₀ : List Addr) (s₀ : Shared) (c : Code) (t : Sem PySem.Fin) (fs : List Frame) (s : Shared) : Prop :=
  SegW (model d.P d.w) d.A (GEnd d It n m k wk.W O₀ wk.H s₀) c t fs s
def GK (d : GD) (It : Nat → V → Hp → Prop) (n : Nat) (ip : List (Addr × Obj)) (c : Code) (fs : List Frame) (K : Flow → Sem PySem.Fin) (D : GEnds) : Prop :=
  ∀ (m k : Nat) (wk : Wke) (O₀ : List Addr) (s₀ s : Shared) (f : Flow), n ≤ k + m → GSP d ip D k wk O₀ s₀ f s → GSeg d It n m k wk O₀ s₀ c (K f) fs s
structure GS (d : GD) (It : Nat → V → Hp → Prop) (n : Nat) (st : Stmt) (t : TGn) : Prop where
  run : ∀ (ip : List (Addr × Obj)) (m k : Nat) (wk : Wke) (O₀ : List Addr) (s₀ : Shared) (c : Code) (fs : List Frame) (K : Flow → Sem PySem.Fin) (J : Value → Sem PySem.Fin) (gd : Bool → Bool) (lv : List Value → List Value) (s : Shared) (σ : L2.St) (H : Hp) (D : GEnds),
    Gc d c fs gd → n ≤ k + m → GK d It n ip c fs K D → At d ip O₀ wk s₀ σ H s → t D k wk σ H → GSeg d It n m k wk O₀ s₀ c ((exec st d.env).wrap K J gd lv) fs s
structure GSs (d : GD) (It : Nat → V → Hp → Prop) (n : Nat) (st : List Stmt) (t : TGn) : Prop where
  run : ∀ (ip : List (Addr × Obj)) (m k : Nat) (wk : Wke) (O₀ : List Addr) (s₀ : Shared) (c : Code) (fs : List Frame) (K : Flow → Sem PySem.Fin) (J : Value → Sem PySem.Fin) (gd : Bool → Bool) (lv : List Value → List Value) (s : Shared) (σ : L2.St) (H : Hp) (D : GEnds),
    Gc d c fs gd → n ≤ k + m → GK d It n ip c fs K D → At d ip O₀ wk s₀ σ H s → t D k wk σ H → GSeg d It n m k wk O₀ s₀ c ((execs st d.env).wrap K J gd lv) fs s

section
variable {d : GD} {It : Nat → V → Hp → Prop} {n : Nat} {st : Stmt} {rest : List Stmt}
theorem sp_gsp {ip : List (Addr × Obj)} {O₀ : List Addr} {wk : Wke} {s₀ s' : Shared} {D : GEnds} {k : Nat} {f : Flow} (l0 : d.L ∈ O₀) (ho : ∀ p ∈ ip, (p.1 ∈ O₀ ∨ s₀.heap.objs.size ≤ p.1)) (lz : d.L < s₀.heap.objs.size) (sz : s₀.heap.objs.size ≤ s'.heap.objs.size)
    (h : SP (d.X (d.s0 s₀) (cutHp d.L wk.H)) (outs O₀ d.L s₀.heap wk.H ++ ip) (D.at k wk) f s') : GSP d ip D k wk O₀ s₀ f s' := by
  cases f with
  | next => obtain ⟨σ, H, I, q⟩ := h; exact ⟨σ, H, ⟨I, l0, ho, lz, sz⟩, q⟩
  | brk => obtain ⟨σ, H, I, q⟩ := h; exact ⟨σ, H, ⟨I, l0, ho, lz, sz⟩, q⟩
  | cont => obtain ⟨σ, H, I, q⟩ := h; exact ⟨σ, H, ⟨I, l0, ho, lz, sz⟩, q⟩
  | ret u => obtain ⟨v, σ, H, I, r, q⟩ := h; exact q.elim
/-- a statement that hands out nothing -/
def tPlain (t : TS) : TGn := fun D k wk σ H => t (D.at k wk) σ H
theorem gs_ps {t : TS} (h : ∀ s0 H0, PS (d.X s0 H0) st t) : GS d It n st (tPlain t) := by
  refine ⟨fun ip m k wk O₀ s₀ c fs K J gd lv s σ H D g hn hk a ht => segw_run ?_⟩
  rw [g.over]
  exact thn ((h _ _).run _ s σ H (D.at k wk) a.inv ht) fun f s' q z => hk m k wk O₀ s₀ s' f hn (sp_gsp a.l0 a.ipO a.lz (Nat.le_trans a.sz z) q)
def tG0 : TGn := fun D k wk σ H => D.nx k wk σ H
theorem gss_nil : GSs d It n [] tG0 := ⟨fun ip m k wk O₀ s₀ c fs K J gd lv s σ H D g hn hk a ht => hk m k wk O₀ s₀ s .next hn ⟨σ, H, a, ht⟩⟩
def tGThen (t u : TGn) : TGn := fun D k wk σ H => t { D with nx := fun k' wk' σ' H' => u D k' wk' σ' H' } k wk σ H
theorem gss_cons {t u : TGn} (a : GS d It n st t) (b : GSs d It n rest u) : GSs d It n (st :: rest) (tGThen t u) := by
  refine ⟨fun ip m k wk O₀ s₀ c fs K J gd lv s σ H D g hn hk h ht => ?_⟩
  show SegW _ _ _ _ ((execs (st :: rest) d.env).wrap K J gd lv) _ _
  rw [execs_cons_wrap]
  refine a.run ip m k wk O₀ s₀ c fs _ J gd lv s σ H { D with nx := fun k' wk' σ' H' => u D k' wk' σ' H' } g hn (fun m' k' wk' O' s₀' s' f hn' q => ?_) h ht
  cases f with
  | next =>
    obtain ⟨σ', H', h', q⟩ := q
    exact b.run ip m' k' wk' O' s₀' c fs K J gd lv s' σ' H' D g hn' hk h' q
  | brk => exact hk m' k' wk' O' s₀' s' .brk hn' q
  | cont => exact hk m' k' wk' O' s₀' s' .cont hn' q
  | ret v => exact q.elim
theorem gss_one {t : TGn} (a : GS d It n st t) : GSs d It n [st] (tGThen t tG0) := gss_cons a gss_nil
def tGIf (c : TT) (t u : TGn) : TGn := fun D k wk σ H => c σ H fun b H1 => if b = true then t D k wk σ H1 else u D k wk σ H1
theorem gs_if {test : Expr} {a b : List Stmt} {pos : Pos} {tc : TT} {t u : TGn} (hc : ∀ s0 H0, PT (d.X s0 H0) test tc) (ha : GSs d It n a t) (hb : GSs d It n b u) : GS d It n (.If test a b pos) (tGIf tc t u) := by
  refine ⟨fun ip m k wk O₀ s₀ c fs K J gd lv s σ H D g hn hk h ht => ?_⟩
  show SegW _ _ _ c (.at pos fun _ => ((isTrue test d.env (eval test d.env) >>= fun x => if x = true then execs a d.env else execs b d.env) : Sem Flow).wrap K J gd lv) fs s
  refine segw_at (segw_bind ?_)
  rw [g.over]
  refine thn ((hc _ _).run _ s σ H _ h.inv ht) fun x s' q z => ?_
  obtain ⟨H1, I1, q⟩ := q
  have h1 : At d ip O₀ wk s₀ σ H1 s' := ⟨I1, h.l0, h.ipO, h.lz, Nat.le_trans h.sz z⟩
  cases x with
  | true =>
    rw [if_pos rfl] at q ⊢
    exact ha.run ip m k wk O₀ s₀ c fs K J gd lv s' σ H1 D g hn hk h1 q
  | false =>
    rw [if_neg Bool.false_ne_true] at q ⊢
    exact hb.run ip m k wk O₀ s₀ c fs K J gd lv s' σ H1 D g hn hk h1 q

/-! ### yield -/
def tGYield (It : Nat → V → Hp → Prop) (n : Nat) (te : TE) : TGn := fun D k wk σ H => te σ H fun x H1 => k < n ∧ It k x H1 ∧ Chg wk.W wk.H H1 ∧ ∃ W1 : List Addr, (∀ b ∈ W1, (b ∈ wk.W ∨ wk.H b = none) ∧ ∃ xs, H1 b = some (.lst xs)) ∧
  ∀ H2, Mild W1 H1 H2 → D.nx (k + 1) ⟨W1, H2⟩ σ H2
theorem loc_at {ip : List (Addr × Obj)} {O₀ : List Addr} {wk : Wke} {s₀ s : Shared} {σ : L2.St} {H : Hp} (a : At d ip O₀ wk s₀ σ H s) : Loc d σ s.heap := ⟨a.inv.len, a.inv.loc⟩
theorem gs_yield {e : Expr} {yp pos : Pos} {te : TE} (ok : d.Ok) (he : ∀ s0 H0, PE (d.X s0 H0) e te) : GS d It n (.Expr (.Yield (some e) yp) pos) (tGYield It n te) := by
  refine ⟨fun ip m k wk O₀ s₀ c fs K J gd lv s σ H D g hn hk a ht => ?_⟩
  have hi : interactive d.env = false := by simp [interactive, ok.kind]
  have hy : ∀ v, yieldOut d.env v = yieldValue v := fun v => by simp only [yieldOut, ok.co, Bool.false_eq_true, if_false]
  rw [exec_Expr d.env _ pos hi rfl]
  show SegW _ _ _ c (.at pos fun _ => ((eval e d.env >>= fun v => (standAt yp >>= fun _ => yieldOut d.env v)) >>= fun x => dropValue (.Yield (some e) yp) pos x).wrap K J gd lv) fs s
  simp only [hy]
  refine segw_at ?_
  rw [Sem.bind_eq_wrap', Sem.bind_eq_wrap', Sem.wrap_wrap, Sem.wrap_wrap]
  refine segw_wrap (E := fun _ _ => False) ?_ fun x s' q => q.elim
  rw [g.over]
  refine thn (GF.wpAny_hsz ((he _ _).run _ s σ H _ a.inv ht)) fun v s' q => ?_
  obtain ⟨zz, x, H1, I1, rv, hkn, hit, hch, W1, hW1, q⟩ := q
  have a1 : At d ip O₀ wk s₀ σ H1 s' := ⟨I1, a.l0, a.ipO, a.lz, Nat.le_trans a.sz zz⟩
  refine segw_at ?_
  obtain ⟨m, rfl⟩ : ∃ m', m = m' + 1 := ⟨m - 1, by omega⟩
  refine segw_yield g.split fun p => ?_
  refine ⟨by simp [End.quiet, g.gd, g.guard], hkn, x, H1, W1, d.L :: ip.map Prod.fst, rv, hit, wk_of ok I1, hch, ⟨hW1, fun b hb => ?_⟩, List.mem_cons_self, fun s'' H2 bk => ?_⟩
  · rcases List.mem_cons.mp hb with z | z
    · obtain ⟨_, ⟨o, es, ep, ho, hd, _⟩, _⟩ := (loc_at a1).2
      refine ⟨.inl (z ▸ a.l0), z ▸ I1.free, o, z ▸ ho, fun v q => ?_⟩
      rw [hd] at q
      cases q
    · obtain ⟨pp, hp, rfl⟩ := List.mem_map.mp z
      obtain ⟨h1, h2, _, _, h5⟩ := I1.pin pp (List.mem_append_right _ (List.mem_append_right _ hp))
      exact ⟨a.ipO pp hp, h2, pp.2, h1, h5⟩
  · have hL := bk.own d.L List.mem_cons_self
    have loc : Loc d σ s''.heap := (loc_at a1).of ok hL.1
    have a2 : At d ip (d.L :: ip.map Prod.fst) ⟨W1, H2⟩ s'' σ H2 s'' := by
      refine ⟨wake ok bk.env hL.2 List.mem_cons_self loc fun pp hp => ?_, List.mem_cons_self, fun pp hp => .inl (List.mem_cons_of_mem _ (List.mem_map_of_mem hp)), let ⟨_, _, hn, _⟩ := loc; hn.lt, Nat.le_refl _⟩
      obtain ⟨h1, h2, h3, h4, h5⟩ := I1.pin pp (List.mem_append_right _ (List.mem_append_right _ hp))
      obtain ⟨z1, z2⟩ := bk.own pp.1 (List.mem_cons_of_mem _ (List.mem_map_of_mem hp))
      exact ⟨z1.trans h1, z2, h3, h4, h5⟩
    exact hk m (k + 1) ⟨W1, H2⟩ _ s'' s'' .next (by omega) ⟨σ, H2, a2, q H2 bk.mild⟩
end
end GL
/-! GenLoops -/
set_option Elab.async false
set_option linter.all false
set_option maxRecDepth 100000
/-! while and for in a generator's body. -/
namespace GL
open PySem PySem.Spec PyProof.Rows L2
section
variable {d : GD} {It : Nat → V → Hp → Prop} {n : Nat}
theorem gc_in {c c' : Code} {fs : List Frame} {gd : Bool → Bool} {k : Result → Sem PySem.Fin} {l kp : List Value} {p : Pos} (g : Gc d c fs gd) (hw : c'.weight = 0) (hu : c'.cUnits = 0) :
    Gc d c' (.ret k none (gd false) l c p kp :: fs) (fun x => id (id x)) where
  over := (GenW.over_loop hw hu).trans g.over
  split := GF.split_ret g.split
  guard := by
    show (gd false || fs.any Frame.guarded) = false
    rw [g.gd, g.guard]
    rfl
  gd := rfl
def tGWhile (c : TT) (tb : TGn) : TGn := fun D k wk σ H => ∃ Z : Nat → Nat → Wke → L2.St → Hp → Prop, (∃ j, Z j k wk σ H) ∧ ∀ j k wk σ H, Z j k wk σ H →
  c σ H fun b H1 => if b = true then ∃ Nx : Nat → Wke → L2.St → Hp → Prop, (∀ k' wk' σ' H', Nx k' wk' σ' H' → ∃ j', j' < j ∧ Z j' k' wk' σ' H') ∧ tb { nx := Nx, ct := Nx, bk := D.nx } k wk σ H1 else D.nx k wk σ H1
theorem gs_while {test : Expr} {body : List Stmt} {pos : Pos} {tc : TT} {tb : TGn} (hc : ∀ s0 H0, PT (d.X s0 H0) test tc) (hb : GSs d It n body tb) : GS d It n (.While test body [] pos) (tGWhile tc tb) := by
  refine ⟨fun ip m k wk O₀ s₀ c fs K J gd lv s σ H D g hn hk a ht => ?_⟩
  obtain ⟨Z, ⟨j0, z0⟩, turn⟩ := ht
  refine segw_at (segw_call fun p => ?_)
  have loop : ∀ (j m k : Nat) (wk : Wke) (O₀ : List Addr) (s₀ s : Shared) (σ : L2.St) (H : Hp), n ≤ k + m → Z j k wk σ H → At d ip O₀ wk s₀ σ H s →
      SegW (model d.P d.w) d.A (GEnd d It n m k wk.W O₀ wk.H s₀) (.whileLoop test body [] d.env) ((model d.P d.w).den (.whileLoop test body [] d.env))
        (.ret (fun r => ((match r with | .ok f => (.pure f : Sem Flow) | .error e => .raise e).onRaise fun (x : Value) => do
          if (← field x 1) == Value.none then unsupported "frame.own-activation:exception-without-traceback"
          setFlight x d.env.frame).wrap K J gd lv) none (gd false) (lv []) c p [] :: fs) s := by
    intro j
    induction j using Nat.strongRecOn with
    | ind j ih =>
      intro m k wk O₀ s₀ s σ H hn z a
      show SegW _ _ _ _ ((whileTurn test body [] d.env).onRaise (fun x => do noteFrame x d.env; theTreesLotGoes x)) _ _
      unfold whileTurn
      rw [Sem.onRaise_eq_wrap]
      refine segw_bind ?_
      rw [(gc_in g rfl rfl).over]
      refine thn ((hc _ _).run _ s σ H _ a.inv (turn j k wk σ H z)) fun b s' q zz => ?_
      obtain ⟨H1, I1, q⟩ := q
      have a1 : At d ip O₀ wk s₀ σ H1 s' := ⟨I1, a.l0, a.ipO, a.lz, Nat.le_trans a.sz zz⟩
      cases b with
      | true =>
        rw [if_pos rfl] at q ⊢
        obtain ⟨Nx, hNx, q⟩ := q
        rw [Sem.bind_eq_wrap', Sem.wrap_wrap]
        refine hb.run ip m k wk O₀ s₀ _ _ _ _ _ _ s' σ H1 { nx := Nx, ct := Nx, bk := D.nx } (gc_in g rfl rfl) hn (fun m' k' wk' O' s₀' s2 f hn' q2 => ?_) a1 q
        cases f with
        | next =>
          obtain ⟨σ2, H2, a2, z2⟩ := q2
          obtain ⟨j', hj, z3⟩ := hNx k' wk' σ2 H2 z2
          exact segw_again rfl (ih j' hj m' k' wk' O' s₀' s2 σ2 H2 hn' z3 a2)
        | cont =>
          obtain ⟨σ2, H2, a2, z2⟩ := q2
          obtain ⟨j', hj, z3⟩ := hNx k' wk' σ2 H2 z2
          exact segw_again rfl (ih j' hj m' k' wk' O' s₀' s2 σ2 H2 hn' z3 a2)
        | brk => exact segw_leaf (.ok .next) (hk m' k' wk' O' s₀' s2 .next hn' q2)
        | ret v => exact q2.elim
      | false =>
        rw [if_neg Bool.false_ne_true] at q ⊢
        exact segw_leaf (.ok .next) (hk m k wk O₀ s₀ s' .next hn ⟨σ, H1, a1, q⟩)
  exact loop j0 m k wk O₀ s₀ s σ H hn z0 a

/-- for target in a list: the iterator's own object sleeps with the generator -/
def tGFor (tl : TE) (g : TG) (tb : TGn) (K : PySem.W.Frag) : TGn := fun D k wk σ H => tl σ H fun y H1 => ∃ (b : Addr) (xs : List V), y = .ref b ∧ SqL K H1 b xs ∧ ∃ Z : Nat → Nat → Wke → L2.St → Hp → Prop, Z 0 k wk σ H1 ∧ (∀ i k wk σ H, i ≤ xs.length → Z i k wk σ H → SqL K H b xs) ∧
  (∀ i x k wk σ H, xs[i]? = some x → Z i k wk σ H → g x σ H fun σ2 H2 => tb { nx := Z (i + 1), ct := Z (i + 1), bk := D.nx } k wk σ2 H2) ∧ ∀ k wk σ H, Z xs.length k wk σ H → D.nx k wk σ H
theorem gs_for {tg iter : Expr} {body : List Stmt} {pos : Pos} {tl : TE} {g : TG} {tb : TGn} (hl : ∀ s0 H0, PE (d.X s0 H0) iter tl) (hg : ∀ s0 H0, PG (d.X s0 H0) tg g) (hb : GSs d It n body tb)
    (hs : ∀ x, foldedSetIterable iter d.env x = pure x := by intro _; rfl) : GS d It n (.For tg iter body [] pos) (tGFor tl g tb d.K) := by
  refine ⟨fun ip m k wk O₀ s₀ c fs K J gd lv s σ H D gc hn hk a ht => ?_⟩
  show SegW _ _ _ c (.at pos fun _ => ((eval iter d.env >>= fun y => (foldedSetIterable iter d.env y >>= fun x => standAt iter.pos >>= fun _ => (holding [x] (pyIter x) >>= fun itv => runOwn (.forLoop tg itv body [] d.env) d.env))) : Sem Flow).wrap K J gd lv) fs s
  refine segw_at (segw_bind ?_)
  rw [gc.over]
  refine thn ((hl _ _).run _ s σ H _ a.inv ht) fun v s1 q1 zz => ?_
  obtain ⟨y, H1, I1, r1, b, xs, e, hq, Z, z0, hZ, hturn, hend⟩ := q1
  subst e
  cases r1
  rw [hs]
  show SegW _ _ _ c (.at iter.pos fun _ => ((holding [.ref b] (pyIter (.ref b)) >>= fun itv => runOwn (.forLoop tg itv body [] d.env) d.env) : Sem Flow).wrap K J gd lv) fs s1
  refine segw_at (segw_bind ?_)
  rw [gc.over]
  obtain ⟨its, rv, pl, hz⟩ := I1.list hq
  refine wpAny_holding (wpAny_pyIter_list pl.isList fun zz2 => ?_)
  generalize hit : s1.heap.objs.size = it at zz2 ⊢
  have hsz : s₀.heap.objs.size ≤ it := by
    rw [← hit]
    exact Nat.le_trans a.sz zz
  generalize hs2 : ({ s1 with heap := s1.heap.push _ } : Shared) = s2 at zz2 ⊢
  have kp : ∀ c o, s1.heap.get? c = some o → s2.heap.get? c = some o := fun c o e => by
    rw [← hs2]
    exact Heap.get?_push_of_some _ e
  have I2 : Inv (d.X (d.s0 s₀) (cutHp d.L wk.H)) (outs O₀ d.L s₀.heap wk.H ++ ip) σ H1 s2 := by
    rw [← hs2]
    exact I1.kept (t' := s1.toks) fun c o e => Heap.get?_push_of_some _ e
  have st2 : s2.heap.IsListIter it b 0 := by
    rw [← hs2, ← hit]
    exact ⟨_, Heap.get?_push_size _ rfl, rfl, rfl⟩
  have T := turn_list (P := d.P) (w := d.w) (K := d.K) (tg := tg) b it
  have f2 : ∀ c ∈ [it], FpOk (d.X (d.s0 s₀) (cutHp d.L wk.H)) (outs O₀ d.L s₀.heap wk.H ++ ip) H1 c := fun c hc => by
    have e : c = it := by simpa using hc
    subst e
    rw [← hit]
    exact I1.fpOk (Nat.le_refl _) (I1.hok.fresh (Nat.le_refl _))
  refine segw_call fun p => ?_
  have loop : ∀ (j i m k : Nat) (wk : Wke) (O₀ : List Addr) (s₀ s : Shared) (σ : L2.St) (H : Hp), n ≤ k + m → (j + i = xs.length) → Z i k wk σ H → At d ip O₀ wk s₀ σ H s → s.heap.IsListIter it b i → (∀ b ∈ [it], FpOk (d.X (d.s0 s₀) (cutHp d.L wk.H)) (outs O₀ d.L s₀.heap wk.H ++ ip) H b) → (∀ b ∈ [it], b ∈ O₀ ∨ s₀.heap.objs.size ≤ b) →
      SegW (model d.P d.w) d.A (GEnd d It n m k wk.W O₀ wk.H s₀) (.forLoop tg (.ref it) body [] d.env) ((model d.P d.w).den (.forLoop tg (.ref it) body [] d.env))
        (.ret (fun r => ((match r with | .ok f => (.pure f : Sem Flow) | .error e => .raise e).onRaise fun (x : Value) => do
          if (← field x 1) == Value.none then unsupported "frame.own-activation:exception-without-traceback"
          setFlight x d.env.frame).wrap K J gd lv) none (gd false) (lv []) c p [] :: fs) s := by
    intro j
    induction j using Nat.strongRecOn with
    | ind j ih =>
      intro i m k wk O₀ s₀ s σ H hn hji z a st fo fO
      show SegW _ _ _ _ ((forTurn tg (.ref it) body [] d.env).onRaise (fun x => do noteFrame x d.env; theTreesLotGoes x)) _ _
      unfold forTurn
      rw [Sem.onRaise_eq_wrap]
      refine segw_bind (wpAny_standAt fun _ => ?_)
      refine segw_bind ?_
      rw [(gc_in gc rfl rfl).over]
      refine wpAny_onRaise ?_
      have hq3 := hZ i k wk σ H (by omega) z
      by_cases hlt : i < xs.length
      rotate_left
      · have hix : i = xs.length := by omega
        refine wpAny_mono (T.done (d.X (d.s0 s₀) (cutHp d.L wk.H)) rfl rfl rfl rfl i _ s σ H (fun _ _ => False) a.inv fo st ⟨xs, hq3, by omega⟩) (fun r s4 hr zz => ?_) fun _ _ y => y.elim
        obtain ⟨hr, I4⟩ := hr
        subst hr
        refine segw_again rfl ?_
        refine segw_leaf (.ok .next) (hk m k wk O₀ s₀ s4 .next hn ⟨σ, H, ⟨I4, a.l0, a.ipO, a.lz, Nat.le_trans a.sz zz⟩, hend k wk σ H ?_⟩)
        rw [← hix]
        exact z
      · refine wpAny_mono (T.item (d.X (d.s0 s₀) (cutHp d.L wk.H)) rfl rfl rfl rfl i _ s σ H (fun _ _ => False) a.inv fo st ⟨xs, xs[i], hq3, List.getElem?_eq_getElem hlt⟩) (fun r s4 hr zz4 => ?_) fun _ _ y => y.elim
        obtain ⟨u, hr, h4⟩ := hr
        subst hr
        refine segw_bind ?_
        rw [(gc_in gc rfl rfl).over]
        refine wpAny_mono h4 (fun _ s5 q5 zz5 => ?_) fun _ _ y => y
        obtain ⟨x, H5, I5, r5, y5, st5, n5⟩ := q5
        obtain ⟨rfl, y5⟩ := y5
        have hx : xs[i]? = some x := y5 xs hq3
        have fo5 : ∀ b ∈ [it], FpOk (d.X (d.s0 s₀) (cutHp d.L wk.H)) (outs O₀ d.L s₀.heap wk.H ++ ip) H5 b := fun b hb => ⟨n5 b hb, (fo b hb).2⟩
        have I5' := I5.pinned fo5 (T.obj _ _ st5)
        rw [List.append_assoc] at I5'
        have a5 : At d (ip ++ pinsAt [it] s5.heap) O₀ wk s₀ σ H5 s5 := ⟨I5', a.l0, fun pp hp => by
          rcases List.mem_append.mp hp with w | w
          · exact a.ipO pp w
          · exact fO pp.1 (of_pinsAt w).1, a.lz, Nat.le_trans a.sz (Nat.le_trans zz4 zz5)⟩
        refine segw_bind ?_
        rw [(gc_in gc rfl rfl).over]
        refine thn ((hg _ _).run _ s5 σ H5 x u _ a5.inv r5 (hturn i x k wk σ H5 hx z)) fun _ s6 q6 zz6 => ?_
        obtain ⟨σ6, H6, I6, q6⟩ := q6
        have a6 : At d (ip ++ pinsAt [it] s5.heap) O₀ wk s₀ σ6 H6 s6 := ⟨I6, a5.l0, a5.ipO, a.lz, Nat.le_trans a5.sz zz6⟩
        have back : ∀ {m' k' : Nat} {wk' : Wke} {O' : List Addr} {s₀' s7 : Shared} {σ7 : L2.St} {H7 : Hp}, n ≤ k' + m' → At d (ip ++ pinsAt [it] s5.heap) O' wk' s₀' σ7 H7 s7 → Z (i + 1) k' wk' σ7 H7 →
            SegW (model d.P d.w) d.A (GEnd d It n m' k' wk'.W O' wk'.H s₀') (.forLoop tg (.ref it) body [] d.env) ((model d.P d.w).den (.forLoop tg (.ref it) body [] d.env))
              (.ret (fun r => ((match r with | .ok f => (.pure f : Sem Flow) | .error e => .raise e).onRaise fun (x : Value) => do
                if (← field x 1) == Value.none then unsupported "frame.own-activation:exception-without-traceback"
                setFlight x d.env.frame).wrap K J gd lv) none (gd false) (lv []) c p [] :: fs) s7 := fun {m' k' wk' O' s₀' s7 σ7 H7} hn' a7 nx => by
          have pin : ∀ b ∈ [it], ∃ o, s5.heap.get? b = some o ∧ (b, o) ∈ pinsAt [it] s5.heap := fun b hb => by
            obtain ⟨o, e, _⟩ := T.obj _ _ st5 b hb
            exact ⟨o, e, mem_pinsAt hb e⟩
          have inO : ∀ b ∈ [it], b ∈ O' ∨ s₀'.heap.objs.size ≤ b := fun b hb => by
            obtain ⟨o, e, hm⟩ := pin b hb
            exact a7.ipO (b, o) (List.mem_append_right _ hm)
          have a8 : At d ip O' wk' s₀' σ7 H7 s7 := ⟨a7.inv.pins_of fun pp hp => by
              rcases List.mem_append.mp hp with w | w
              · exact a7.inv.pin pp (List.mem_append_right _ (List.mem_append_left _ w))
              · exact a7.inv.pin pp (List.mem_append_right _ (List.mem_append_right _ (List.mem_append_left _ w))), a7.l0, fun pp hp => a7.ipO pp (List.mem_append_left _ hp), a7.lz, a7.sz⟩
          refine ih (j - 1) (by omega) (i + 1) m' k' wk' O' s₀' s7 σ7 H7 hn' (by omega) nx a8 (T.keep _ _ _ st5 fun b hb o e => (a7.inv.pin (b, o) (List.mem_append_right _ (List.mem_append_right _ (List.mem_append_right _ (mem_pinsAt hb e))))).1) (fun b hb => ?_) inO
          obtain ⟨o, e, hm⟩ := pin b hb
          obtain ⟨h1, h2, h3, h4, h5⟩ := a7.inv.pin (b, o) (List.mem_append_right _ (List.mem_append_right _ (List.mem_append_right _ hm)))
          refine ⟨h2, h3, h4, .inr ?_, fun x cc ec => ((fo b hb).2.2.2.2.1 x cc ec), fun pp hp => ?_⟩
          · show (cutH s₀'.heap d.L).objs.size ≤ b
            have q := (fo b hb).2.2.2.1
            have lb : d.L ≤ b := by
              rcases q with q | q
              · exact absurd (show b ∈ ([] : List Addr) from q) (by simp)
              · have q' : (cutH s₀.heap d.L).objs.size ≤ b := q
                rw [cut_size] at q'
                have := a.lz
                rw [Nat.min_eq_left (Nat.le_of_lt this)] at q'
                exact q'
            rw [cut_size]
            exact Nat.le_trans (Nat.min_le_left _ _) lb
          · rcases List.mem_append.mp (show pp ∈ [] ++ (outs O' d.L s₀'.heap wk'.H ++ ip) from hp) with w | w
            · cases w
            · rcases List.mem_append.mp w with w | w
              · obtain ⟨_, y2, _, y4, _⟩ := of_outs w
                intro q
                rcases inO b hb with r | r
                · exact y2 (q ▸ r)
                · have := Heap.lt_size y4
                  rw [q] at this
                  exact absurd (Nat.lt_of_lt_of_le this r) (Nat.lt_irrefl _)
              · exact (fo b hb).2.2.2.2.2 pp (List.mem_append_right _ (List.mem_append_right _ w))
        rw [Sem.bind_eq_wrap', Sem.wrap_wrap]
        refine hb.run (ip ++ pinsAt [it] s5.heap) m k wk O₀ s₀ _ _ _ _ _ _ s6 σ6 H6 { nx := Z (i + 1), ct := Z (i + 1), bk := D.nx } (gc_in gc rfl rfl) hn (fun m' k' wk' O' s₀' s7 f hn' q7 => ?_) a6 q6
        cases f with
        | next =>
          obtain ⟨σ7, H7, a7, z7⟩ := q7
          exact segw_again rfl (back hn' a7 z7)
        | cont =>
          obtain ⟨σ7, H7, a7, z7⟩ := q7
          exact segw_again rfl (back hn' a7 z7)
        | brk =>
          obtain ⟨σ7, H7, a7, z7⟩ := q7
          refine segw_leaf (.ok .next) (hk m' k' wk' O' s₀' s7 .next hn' ⟨σ7, H7, ⟨a7.inv.pins_of fun pp hp => ?_, a7.l0, fun pp hp => a7.ipO pp (List.mem_append_left _ hp), a7.lz, a7.sz⟩, z7⟩)
          rcases List.mem_append.mp hp with w | w
          · exact a7.inv.pin pp (List.mem_append_right _ (List.mem_append_left _ w))
          · exact a7.inv.pin pp (List.mem_append_right _ (List.mem_append_right _ (List.mem_append_left _ w)))
        | ret v => exact q7.elim
  refine loop xs.length 0 m k wk O₀ s₀ s2 σ H1 hn rfl z0 ⟨I2, a.l0, a.ipO, a.lz, Nat.le_trans (Nat.le_trans a.sz zz) (by rw [hit]; exact zz2)⟩ st2 f2 fun c hc => ?_
  have e : c = it := by simpa using hc
  subst e
  exact .inr hsz
end
end GL
/-! GenNext -/
set_option Elab.async false
set_option linter.all false
set_option maxRecDepth 100000
set_option maxHeartbeats 1000000
/-! next(g) for a consumer over the hand layer. -/
namespace GL
open PySem PySem.Spec PyProof.Rows L2
open Sem (wp)

theorem obj_there {P : Program} {w : World} {H : Hp} {h : Heap} {a : Addr} {o : HO} (x : ObjOk P w H h a o) : ∃ ob, h.get? a = some ob := by
  induction o with
  | lst xs => obtain ⟨_, _, _, _, e⟩ := x; exact ⟨_, e⟩
  | tup xs => obtain ⟨_, _, _, ob, e, _⟩ := x; exact ⟨_, e⟩
  | dK kvs => obtain ⟨_, _, _, _, ob, _, _, e, _⟩ := x; exact ⟨_, e⟩
  | dT kvs => obtain ⟨_, _, _, _, ob, _, _, e, _⟩ := x; exact ⟨_, e⟩
  | set S n => obtain ⟨ob, _, _, _, e, _⟩ := x; exact ⟨_, e⟩
  | ins C dx fs => obtain ⟨_, _, _, e, _⟩ := x; exact ⟨_, e⟩
  | own y => exact x
  | xd fs => obtain ⟨_, ⟨_, _, _, e, _⟩, _⟩ := x; exact ⟨_, e⟩
  | rng lo hi => obtain ⟨_, _, _, e⟩ := x; exact ⟨_, e⟩
  | frz ob u ih => obtain ⟨e, _⟩ := x; exact ⟨_, e⟩
  | tbl ps => exact ⟨_, x⟩
  | met f y => exact ⟨_, x⟩
  | ext φ => exact x.2.1

/-- what wakes go on to -/
def Go1 (d : GD) (F : End → Shared → Prop) (gs : GenState) (s : Shared) : Prop :=
  match gs with
  | .fresh c => SegW (model d.P d.w) d.A F c ((model d.P d.w).den c) [] s
  | .suspended kk _ c _ fs _ => SegW (model d.P d.w) d.A F c (kk (.send .none)) fs s
  | _ => False

theorem resume_w {d : GD} {F : End → Shared → Prop} {s : Shared} {g : Nat} {gs : GenState} {l : List Value} {α : Type} {k : GenResult → Sem α} {Q : α → Shared → Prop} {E : Value → Shared → Prop} (hg : s.gens[g]? = some gs)
    (hgo : Go1 d F gs (s.setGen g .running)) (h : ∀ e s1, F e s1 → e.quiet = true ∧ wpAny (model d.P d.w) d.A (k e.result) Q E (s1.setGen g e.genState)) : wpAny (model d.P d.w) d.A (.resume g (.send .none) l k) Q E s := by
  intro Γ p hΓ
  rw [Sem.wp_resume]
  cases gs with
  | running => exact hgo.elim
  | finished => exact hgo.elim
  | fresh c =>
    obtain ⟨e, s1, hr, he⟩ := hgo (Γ.wake c p) p rfl (hΓ.wake c p)
    obtain ⟨hq, hk⟩ := h e s1 he
    refine ⟨_, _, ?_, hk Γ p hΓ⟩
    unfold Wakes
    rw [hg]
    exact ⟨e, s1, hr, hq, rfl, rfl⟩
  | suspended kk ll c pp fs cl =>
    obtain ⟨e, s1, hr, he⟩ := hgo (Γ.wake c p) pp rfl (hΓ.wake c p)
    obtain ⟨hq, hk⟩ := h e s1 he
    refine ⟨_, _, ?_, hk Γ p hΓ⟩
    unfold Wakes
    rw [hg]
    exact ⟨e, s1, hr, hq, rfl, rfl⟩

/-- a generator that sleeps: k of n items are out -/
structure GenAt (d : GD) (It : Nat → V → Hp → Prop) (n : Nat) (a : Addr) (g k : Nat) (W O : List Addr) (H : Hp) (s : Shared) : Prop where
  gen : s.heap.IsGen a g
  na : a ∉ O
  la : d.L ≤ a
  nf : a ∉ frs d.outer
  l0 : d.L ∈ O
  wl : ∀ b ∈ W, ∃ xs, H b = some (.lst xs)
  go : ∃ gs m, s.gens[g]? = some gs ∧ n ≤ k + m ∧ (k = 0 ∨ GF.IsSusp s.gens g) ∧ ∀ s2 H2, Back d W O s H s2 H2 → Go1 d (GEnd d It n m k W O H2 s2) gs s2

theorem isGen_noCell {h : Heap} {a : Addr} {g : Nat} (x : h.IsGen a g) : ∃ o, h.get? a = some o ∧ noCell o ∧ ∀ h' : Heap, h'.get? a = some o → h'.IsGen a g := by
  obtain ⟨o, nm, qn, ho, hc, hd, hs⟩ := x
  exact ⟨o, ho, fun v q => (by rw [hd] at q; cases q), fun h' e => ⟨o, nm, qn, e, hc, hd, hs⟩⟩

theorem GenAt.moved {d : GD} {It : Nat → V → Hp → Prop} {n : Nat} {a : Addr} {g k : Nat} {W O : List Addr} {H H2 : Hp} {s s2 : Shared} (G : GenAt d It n a g k W O H s) (ha : s2.heap.get? a = s.heap.get? a) (hO : ∀ b ∈ O, s2.heap.get? b = s.heap.get? b) (hm : Mild W H H2) (hg : s2.gens[g]? = s.gens[g]?) :
    GenAt d It n a g k W O H2 s2 := by
  obtain ⟨G1, na, la, nf, l0, wl, gs, m, h1, h2, h3, h4⟩ := G
  obtain ⟨o, ho, _, hz⟩ := isGen_noCell G1
  refine ⟨hz _ (ha.trans ho), na, la, nf, l0, fun b hb => ?_, gs, m, hg.trans h1, h2, ?_, fun s3 H3 bk => h4 s3 H3 ⟨fun b hb => ⟨(bk.own b hb).1.trans (hO b hb), (bk.own b hb).2⟩, hm.trans bk.mild, bk.env⟩⟩
  · obtain ⟨xs, e⟩ := wl b hb
    exact ⟨xs, hm b _ e fun _ _ => hb⟩
  · rcases h3 with z | ⟨kk, l, c, p, fs, cl, e⟩
    · exact .inl z
    · exact .inr ⟨kk, l, c, p, fs, cl, hg.trans e⟩

/-- next(g) -/
theorem next_w {d : GD} {A : Around} {It : Nat → V → Hp → Prop} {n : Nat} {a : Addr} {g k : Nat} {W O : List Addr} {H : Hp} {s : Shared} {Q : Option Value → Shared → Prop} {E : Value → Shared → Prop} (hA : d.A = A.in1) (hh : A.handled = none) (hl : s.heap.NoLimit) (hroom : A.depth < recursionLimit)
    (G : GenAt d It n a g k W O H s) (e0 : Env0 d.P d.w d.K d.mg d.base d.A d.outer s H) (hO : ∀ b ∈ a :: O, H b = none)
    (hY : ∀ (v : Value) (x : V) (s1 : Shared) (H1 : Hp) (W1 O1 : List Addr), RelV x v → k < n → It k x H1 → Wk d O H H1 s s1 → Chg W H H1 → Own d W O W1 O1 H H1 s s1 → GenAt d It n a g (k + 1) W1 O1 H1 s1 → Q (some v) s1)
    (hP : ∀ (s1 : Shared) (H1 : Hp), k = n → Wk d O H H1 s s1 → Chg W H H1 → Q none s1) : wpAny (model d.P d.w) A (pyNext (.ref a)) Q E s := by
  obtain ⟨G1, na, la, nf, l0, wl, gs, m, hgs, hnm, hfs, hgo⟩ := G
  have hgl : g < s.gens.size := (Array.getElem?_eq_some_iff.mp hgs).1
  have bare1 : AllBare (s.setGen g .running).gens := allBare_setGen e0.bare rfl
  have e1 : Env0 d.P d.w d.K d.mg d.base d.A d.outer (s.setGen g .running) H := ⟨e0.frames, e0.mod, e0.bs, e0.bsz, e0.funs, e0.frf, e0.hok, bare1⟩
  have go := hgo (s.setGen g .running) H ⟨fun b hb => ⟨rfl, hO b (List.mem_cons_of_mem _ hb)⟩, Mild.refl _ _, e1⟩
  have own : ∀ {e : End} {s1 : Shared}, AllBare s1.gens → e.quiet = true → AllBare (s1.setGen g e.genState).gens := fun {e s1} b q => allBare_setGen b (End.bare_of_quiet q)
  have wkS : ∀ {H1 : Hp} {s1 : Shared} {x : GenState}, Wk d O H H1 (s.setGen g .running) s1 → AllBare (s1.setGen g x).gens → Wk d O H H1 s (s1.setGen g x) := fun {H1 s1 x} q b => ⟨q.os, b, q.keep, q.hok, q.free⟩
  refine GenW.wpAny_gsz (n := g + 1) hgl ?_
  unfold pyNext
  refine wpAny_bind (wpAny_attempt (wpAny_callSpecial?_slot (name := Str.ofString "__next__") G1.typeIs slot_gen_next (wpAny_call_entry slot_gen_next G1.typeIs entry_gen_next ?_ (args_gen_next _))))
  show wpAny _ A.in1 (Builtin.Generator.genWake (.ref a) (.send .none)) _ _ s
  unfold Builtin.Generator.genWake
  refine wpAny_bind (wpAny_holding (wpAny_genNumber G1 (wpAny_bind (wpAny_genState hgs ?_))))
  cases gs with
  | running => exact go.elim
  | finished => exact go.elim
  | _ =>
    refine wpAny_bind (wpAny_roomToWake hl hroom ?_)
    show wpAny _ A.in1 (.resume g (.send .none) [] _) _ _ s
    rw [← hA]
    refine resume_w hgs go (fun e s1 he => ?_)
    cases e with
    | ret r =>
      obtain ⟨hr, hk, H1, hw, hc⟩ : r = .ok (.ret .none) ∧ k = n ∧ ∃ H1, Wk d O H H1 (s.setGen g .running) s1 ∧ Chg W H H1 := by
        cases m <;> exact he
      subst hr
      refine ⟨rfl, ?_⟩
      rw [hA]
      have hres : End.result (.ret (.ok (.ret .none))) = .returned .none := rfl
      first | rw [hres] | simp only [hres]
      show wpAny _ A.in1 (newExc (.type "StopIteration") [] >>= _) _ _ _
      refine wpAny_bind ?_; simp only [newExc, newTuple]
      refine wpAny_bind (wpAny_newObj_type ?_ (by size_fits)); refine wpAny_bind (m := firstArgMember _ _) (wpAny_of_eq (a := Value.none) (by first | rfl | (simp only [firstArgMember]; rfl)) ?_)
      refine wpAny_newObj_type ?_ (by size_fits); simp only [raiseNew]; refine wpAny_bind (wpAny_bind (wpAny_handled ?_))
      first | rw [show A.in1.handled = none from hh] | rw [hh]
      refine wpAny_throw ?_; refine wpAny_bind (wpAny_isInstance (T := "StopIteration") (b := true) ⟨_, Heap.get?_push_size _ rfl, rfl⟩ isSubtype_stop ?_)
      have kp : ∀ (h : Heap) (o1 o2 : Obj) (b : Addr) (o : Obj), h.get? b = some o → ((h.push o1).push o2).get? b = some o := fun h o1 o2 b o e => Heap.get?_push_of_some _ (Heap.get?_push_of_some _ e)
      refine wpAny_pure fun _ => hP _ H1 hk ⟨hw.os, allBare_setGen hw.bare rfl, fun b o e z nO hc => ?_, hw.hok.kept (kp _ _ _), hw.free⟩ hc
      obtain ⟨q1, q2, sl, q3⟩ := hw.keep b o e z nO hc
      exact ⟨q1, fun hf => kp _ _ _ _ _ (q2 hf), sl, kp _ _ _ _ _ q3⟩
    | susp v gd l kk c p fs =>
      cases m with
      | zero => exact he.elim
      | succ m =>
        obtain ⟨hq, hkn, x, H1, W1, O1, rv, hit, hw, hc, ow, l1, bk⟩ := he
        refine ⟨hq, ?_⟩
        rw [hA]
        refine wpAny_pure ⟨v, rfl, wpAny_pure fun hsz => ?_⟩
        have bare2 : AllBare (s1.setGen g (End.susp v gd l kk c p fs).genState).gens := own hw.bare hq
        have hgl1 : g < s1.gens.size := by
          have q : (s1.setGen g (End.susp v gd l kk c p fs).genState).gens.size = s1.gens.size := GenW.setGen_size _ _ _
          have hsz' : g + 1 ≤ (s1.setGen g (End.susp v gd l kk c p fs).genState).gens.size := hsz
          omega
        obtain ⟨o, ho, hoc, hoz⟩ := isGen_noCell G1
        have ha1 : s1.heap.get? a = some o := (hw.keep a o ho (hO a List.mem_cons_self) na (.inr hoc)).2.1 nf
        have na1 : a ∉ O1 := fun z => by
          rcases (ow.ol a z).1 with w | w
          · exact na w
          · exact absurd (Nat.lt_of_lt_of_le (Heap.lt_size ho) w) (Nat.lt_irrefl _)
        refine hY v x _ H1 W1 O1 rv hkn hit (wkS hw bare2) hc ⟨ow.wl, ow.ol⟩ ⟨hoz _ ha1, na1, la, nf, l1, fun b hb => (ow.wl b hb).2, _, m, setGen_at hgl1, by omega, .inr ⟨kk, l, c, p, fs, _, setGen_at hgl1⟩, fun s2 H2 q => bk s2 H2 ⟨q.own, q.mild, q.env⟩⟩
end GL
/-! GenUse -/
set_option Elab.async false
set_option linter.all false
set_option maxRecDepth 100000
set_option maxHeartbeats 1000000
/-! for over a generator, a comprehension over a generator, list of a generator. -/
namespace GL
open PySem PySem.Spec PyProof.Rows L2

open Classical in
noncomputable def cellsAt (n : Nat) (h : Heap) (H : Hp) : List Addr := (List.range h.objs.size).filter fun b => decide (n ≤ b ∧ H b = none ∧ ∃ o, h.get? b = some o ∧ ¬ noCell o)
open Classical in
theorem mem_cellsAt {n : Nat} {h : Heap} {H : Hp} {b : Addr} : b ∈ cellsAt n h H ↔ n ≤ b ∧ H b = none ∧ ∃ o, h.get? b = some o ∧ ¬ noCell o := by
  unfold cellsAt
  rw [List.mem_filter, decide_eq_true_iff, List.mem_range]
  exact ⟨fun q => q.2, fun q => ⟨let ⟨_, _, o, e, _⟩ := q; Heap.lt_size e, q⟩⟩
theorem after_wake {X : Cx} {pins : List (Addr × Obj)} {σ : L2.St} {H H1 : Hp} {s s' : Shared} {d : GD} {O W : List Addr} (I : Inv X pins σ H s) (ho : d.outer = X.stack) (hp : d.P = X.prog) (hv : d.w = X.w) (wk : Wk d O H H1 s s') (chg : Chg W H H1)
    (hO : ∀ b ∈ O, FpOk X pins H b) (hcell : ∀ x c, X.env.cells.lookup x = some c → c < d.L) (hz : ∀ b o, d.L ≤ b → b < X.s_0.heap.objs.size → s.heap.get? b = some o → H b = none → b ∉ O → noCell o) : Inv X pins σ H1 s' := by
  have hok : HOk X.prog X.w H1 s'.heap := by
    rw [← hp, ← hv]
    exact wk.hok
  have off : ∀ b, b ∉ O ++ cellsAt d.L s.heap H → ∀ o, s.heap.get? b = some o → H b = none → b ∉ O ∧ (b < d.L ∨ noCell o) := fun b hb o e n => by
    refine ⟨fun z => hb (List.mem_append_left _ z), ?_⟩
    by_cases q : b < d.L
    · exact .inl q
    · refine .inr (Classical.byContradiction fun nc => hb (List.mem_append_right _ ?_))
      exact mem_cellsAt.mpr ⟨Nat.not_lt.mp q, n, o, e, nc⟩
  have kind : ∀ b o, H b = some o → (∀ xs, o ≠ .lst xs) → H1 b = some o := fun b o e nl => chg.same b o e fun hb => by
    obtain ⟨xs, e'⟩ := chg.lists b hb
    rw [e] at e'
    exact nl xs (Option.some.inj e')
  refine I.call' (ch := O ++ cellsAt d.L s.heap H) wk.os ⟨fun b o e n hf hc => ?_, fun b o e n hf hc => ?_, fun b o e n hc => ?_, fun b o e hc => ?_, fun b xs e => kind b _ e (fun _ z => by cases z), fun b o u e => kind b _ e (fun _ z => by cases z), fun b ps e => ⟨#[], by rw [kind b _ e (fun _ z => by cases z)]; simp⟩⟩ hok wk.bare fun b hb => ?_
  · obtain ⟨q1, q2⟩ := off b hc o e n
    exact (wk.keep b o e n q1 q2).2.1 (by rw [ho]; exact hf)
  · obtain ⟨q1, q2⟩ := off b hc o e n
    exact (wk.keep b o e n q1 q2).2.2
  · obtain ⟨q1, q2⟩ := off b hc o e n
    exact (wk.keep b o e n q1 q2).1
  · cases n : H b with
    | none =>
      obtain ⟨q1, q2⟩ := off b hc o e n
      obtain ⟨sl, q3⟩ := (wk.keep b o e n q1 q2).2.2
      exact ⟨_, q3⟩
    | some u =>
      have : ∃ u', H1 b = some u' := by
        by_cases hW : b ∈ W
        · obtain ⟨xs, q⟩ := chg.still b hW
          exact ⟨_, q⟩
        · exact ⟨_, chg.same b u n hW⟩
      obtain ⟨u', q⟩ := this
      exact obj_there (hok b u' q)
  · rcases List.mem_append.mp hb with q | q
    · obtain ⟨_, h1, _, h3, h4, h5⟩ := hO b q
      exact ⟨h3, h1, h4, h5⟩
    · obtain ⟨h1, h2, o, h3, h4⟩ := mem_cellsAt.mp q
      by_cases hbO : b ∈ O
      · obtain ⟨_, h1, _, h3, h4, h5⟩ := hO b hbO
        exact ⟨h3, h1, h4, h5⟩
      refine ⟨.inr (Classical.byContradiction fun z => h4 (hz b o h1 (Nat.not_le.mp z) h3 h2 hbO)), fun z => ?_, fun x c ec z => ?_, fun p hp z => ?_⟩
      · obtain ⟨m, ⟨o', es, ep, ho', hd, _⟩, _⟩ := I.loc
        rw [z, ho'] at h3
        cases h3
        refine h4 fun v w => ?_
        rw [hd] at w
        cases w
      · have := hcell x c ec
        rw [z] at this
        exact absurd (Nat.lt_of_lt_of_le this h1) (Nat.lt_irrefl _)
      · obtain ⟨q1, _, _, _, q5⟩ := I.pin p hp
        rw [z, h3] at q1
        cases q1
        exact h4 q5

/-- what a consumer knows of the generator that it walks -/
structure Use (X : Cx) (A : Around) (pins : List (Addr × Obj)) (d : GD) (It : Nat → V → Hp → Prop) (n : Nat) (a : Addr) (g k : Nat) (W O : List Addr) (H : Hp) (s : Shared) : Prop where
  at_ : GenAt d It n a g k W O H s
  fp : ∀ b ∈ a :: O, FpOk X pins H b
  P : d.P = X.prog
  w : d.w = X.w
  K : d.K = X.K
  mg : d.mg = X.mg
  base : d.base = X.base
  dA : d.A = A.in1
  fr : A.frames = some X.stack
  outer : d.outer = X.stack
  cells : ∀ x c, X.env.cells.lookup x = some c → c < d.L
  obj : ∀ b ∈ a :: O, ∃ o, s.heap.get? b = some o ∧ noCell o
theorem Use.env {X : Cx} {A : Around} {pins : List (Addr × Obj)} {σ : L2.St} {d : GD} {It : Nat → V → Hp → Prop} {n : Nat} {a : Addr} {g k : Nat} {W O : List Addr} {H : Hp} {s : Shared} (u : Use X A pins d It n a g k W O H s) (I : Inv X pins σ H s) : Env0 d.P d.w d.K d.mg d.base d.A d.outer s H := by
  rw [u.P, u.w, u.K, u.mg, u.base, u.dA, u.outer]
  exact ⟨u.fr, I.env0.mod, I.env0.bs, I.env0.bsz, I.env0.funs, I.env0.frf, I.env0.hok, I.env0.bare⟩
/-- the next item -/
theorem Use.next {X : Cx} {A : Around} {pins : List (Addr × Obj)} {σ : L2.St} {d : GD} {It : Nat → V → Hp → Prop} {n : Nat} {a : Addr} {g k : Nat} {W O : List Addr} {H : Hp} {s : Shared} {Q : Option Value → Shared → Prop} {E : Value → Shared → Prop} (u : Use X A pins d It n a g k W O H s) (I : Inv X pins σ H s) (hh : A.handled = none) (hr : A.depth < recursionLimit) (old : ∀ b, d.L ≤ b → b < X.s_0.heap.objs.size → b = d.L ∨ b = a ∨ ∃ o, H b = some o)
    (hY : ∀ (v : Value) (x : V) (s1 : Shared) (H1 : Hp) (W1 O1 : List Addr), RelV x v → k < n → It k x H1 → Chg W H H1 → (∀ b ∈ W1, b ∈ W ∨ H b = none) → Inv X pins σ H1 s1 → Use X A pins d It n a g (k + 1) W1 O1 H1 s1 → Q (some v) s1)
    (hN : ∀ (s1 : Shared) (H1 : Hp), k = n → Chg W H H1 → Inv X pins σ H1 s1 → Q none s1) : wpAny (model X.prog X.w) A (pyNext (.ref a)) Q E s := by
  have hz : ∀ b o, d.L ≤ b → b < X.s_0.heap.objs.size → s.heap.get? b = some o → H b = none → b ∉ O → noCell o := fun b o h1 h2 h3 h4 h5 => by
    rcases old b h1 h2 with q | q | q
    · exact absurd (q ▸ u.at_.l0) h5
    · obtain ⟨o', e, nc, _⟩ := isGen_noCell u.at_.gen
      rw [q, e] at h3
      cases h3
      exact nc
    · obtain ⟨o', q⟩ := q
      rw [h4] at q
      cases q
  have nx := next_w (A := A) (Q := Q) (E := E) u.dA hh I.nolimit hr u.at_ (u.env I) (fun b hb => (u.fp b hb).1) (fun v x s1 H1 W1 O1 rv hk hit wk chg ow G => ?_) (fun s1 H1 hk wk chg => ?_)
  · rw [u.P, u.w] at nx
    exact nx
  · have I1 := after_wake I u.outer u.P u.w wk chg (fun b hb => u.fp b (List.mem_cons_of_mem _ hb)) u.cells hz
    refine hY v x s1 H1 W1 O1 rv hk hit chg (fun b hb => (ow.wl b hb).1) I1 ⟨G, fun b hb => ?_, u.P, u.w, u.K, u.mg, u.base, u.dA, u.fr, u.outer, u.cells, fun b hb => ?_⟩
    · rcases List.mem_cons.mp hb with z | z
      · obtain ⟨o, e, nc, _⟩ := isGen_noCell u.at_.gen
        obtain ⟨f0, f⟩ := u.fp a List.mem_cons_self
        exact z ▸ ⟨(wk.keep a o e f0 u.at_.na (.inr nc)).1, f⟩
      · obtain ⟨h1, h2, o, h3, _⟩ := ow.ol b z
        rcases h1 with h1 | h1
        · exact ⟨h2, (u.fp b (List.mem_cons_of_mem _ h1)).2⟩
        · exact I.fpOk h1 h2
    · rcases List.mem_cons.mp hb with z | z
      · obtain ⟨o, e, nc, _⟩ := isGen_noCell G.gen
        exact ⟨o, z ▸ e, nc⟩
      · exact (ow.ol b z).2.2
  · exact hN s1 H1 hk chg (after_wake I u.outer u.P u.w wk chg (fun b hb => u.fp b (List.mem_cons_of_mem _ hb)) u.cells hz)
/-! ### what the consumer does between two items leaves the sleeping generators alone -/
theorem inv_gens {X : Cx} {pins : List (Addr × Obj)} {σ : L2.St} {H : Hp} {s : Shared} {G : Array GenState} (I : Inv X pins σ H s) (hb : AllBare G) : Inv X pins σ H { s with gens := G } :=
  ⟨I.ok, I.os, hb, I.base, I.loc, I.cell, I.free, I.freeC, I.pin, I.hok, I.len⟩
theorem inv_ungens {X : Cx} {pins : List (Addr × Obj)} {σ : L2.St} {H : Hp} {s : Shared} {G : Array GenState} (I : Inv X pins σ H { s with gens := G }) (hb : AllBare s.gens) : Inv X pins σ H s :=
  ⟨I.ok, I.os, hb, I.base, I.loc, I.cell, I.free, I.freeC, I.pin, I.hok, I.len⟩
/-- Q, and the suspended ones are as they were -/
def Kept (G : Array GenState) {α : Type} (Q : α → Shared → Prop) : α → Shared → Prop := fun a s' => Q a s' ∧ ∀ i, GF.IsSusp G i → s'.gens[i]? = G[i]?
theorem keep_run {α : Type} {M : Model} {A : Around} {t : Sem α} {Q : α → Shared → Prop} {E E' : Value → Shared → Prop} {s : Shared} (hb : AllBare s.gens) (h : ∀ G, AllBare G → wpAny M A t Q E { s with gens := G })
    (hQ : ∀ a s' G, Q a { s' with gens := G } → (AllBare G → AllBare s'.gens) → Q a s') (hE : ∀ x s', E x s' → False) : wpAny M A t (Kept s.gens Q) E' s := by
  refine wpAny_mono (GF.wpAny_keep (h _ (GF.bare_poison hb))) (fun a s' q => ?_) fun x s' q => ?_
  · obtain ⟨G0, r, k, q⟩ := q
    exact ⟨hQ a s' G0 q fun z => GF.bare_rel r z, k⟩
  · obtain ⟨G0, r, k, q⟩ := q
    exact (hE x _ q).elim
theorem pss_keep {X : Cx} {body : List Stmt} {tb : TS} (hx : ∀ e s, X.xe e s → False) (hb : PSs X body tb) {pins : List (Addr × Obj)} {s : Shared} {σ : L2.St} {H : Hp} {D : Ends} {E : Value → Shared → Prop} (I : Inv X pins σ H s) (ht : tb D σ H) :
    wpAny (model X.prog X.w) X.A (execs body X.env) (Kept s.gens (SP X pins D)) E s := by
  refine keep_run I.bare (fun G hG => hb.run pins _ σ H D (inv_gens I hG) ht) (fun f s' G q hG => ?_) hx
  cases f with
  | next => obtain ⟨σ', H', I', q⟩ := q; exact ⟨σ', H', inv_ungens I' (hG I'.bare), q⟩
  | brk => obtain ⟨σ', H', I', q⟩ := q; exact ⟨σ', H', inv_ungens I' (hG I'.bare), q⟩
  | cont => obtain ⟨σ', H', I', q⟩ := q; exact ⟨σ', H', inv_ungens I' (hG I'.bare), q⟩
  | ret u => obtain ⟨v, σ', H', I', r, q⟩ := q; exact ⟨v, σ', H', inv_ungens I' (hG I'.bare), r, q⟩
theorem pg_keep {X : Cx} {tg : Expr} {g : TG} (hx : ∀ e s, X.xe e s → False) (hg : PG X tg g) {pins : List (Addr × Obj)} {s : Shared} {σ : L2.St} {H : Hp} {x : V} {u : Value} {Q : L2.St → Hp → Prop} {E : Value → Shared → Prop} (I : Inv X pins σ H s) (r : RelV x u) (ht : g x σ H Q) :
    wpAny (model X.prog X.w) X.A (assign tg X.env u) (Kept s.gens fun _ s' => ∃ σ' H', Inv X pins σ' H' s' ∧ Q σ' H') E s := by
  refine keep_run I.bare (fun G hG => hg.run pins _ σ H x u Q (inv_gens I hG) r ht) (fun f s' G q hG => ?_) hx
  obtain ⟨σ', H', I', q⟩ := q
  exact ⟨σ', H', inv_ungens I' (hG I'.bare), q⟩
theorem pe_keep {X : Cx} {e : Expr} {te : TE} (hx : ∀ e s, X.xe e s → False) (he : PE X e te) {pins : List (Addr × Obj)} {s : Shared} {σ : L2.St} {H : Hp} {Q : VK} {E : Value → Shared → Prop} (I : Inv X pins σ H s) (ht : te σ H Q) :
    wpAny (model X.prog X.w) X.A (eval e X.env) (Kept s.gens (EP X pins σ Q)) E s := by
  refine keep_run I.bare (fun G hG => he.run pins _ σ H Q (inv_gens I hG) ht) (fun f s' G q hG => ?_) hx
  obtain ⟨v, H', I', q⟩ := q
  exact ⟨v, H', inv_ungens I' (hG I'.bare), q⟩
/-- .. and so the generator is where it was -/
theorem Use.stay {X : Cx} {A : Around} {pins : List (Addr × Obj)} {σ : L2.St} {d : GD} {It : Nat → V → Hp → Prop} {n : Nat} {a : Addr} {g k : Nat} {W O : List Addr} {H H2 : Hp} {s s2 : Shared} (u : Use X A pins d It n a g k W O H s) (I2 : Inv X (pins ++ pinsAt (a :: O) s.heap) σ H2 s2) (hm : Mild W H H2) (hg : s2.gens[g]? = s.gens[g]?) :
    Use X A pins d It n a g k W O H2 s2 := by
  have pin : ∀ b ∈ a :: O, s2.heap.get? b = s.heap.get? b ∧ H2 b = none := fun b hb => by
    obtain ⟨o, e, _⟩ := u.obj b hb
    obtain ⟨h1, h2, _⟩ := I2.pin (b, o) (List.mem_append_right _ (List.mem_append_right _ (mem_pinsAt hb e)))
    exact ⟨h1.trans e.symm, h2⟩
  refine ⟨u.at_.moved (pin a List.mem_cons_self).1 (fun b hb => (pin b (List.mem_cons_of_mem _ hb)).1) hm hg, fun b hb => ⟨(pin b hb).2, (u.fp b hb).2⟩, u.P, u.w, u.K, u.mg, u.base, u.dA, u.fr, u.outer, u.cells, fun b hb => ?_⟩
  obtain ⟨o, e, nc⟩ := u.obj b hb
  exact ⟨o, (pin b hb).1.trans e, nc⟩
theorem Use.pinned {X : Cx} {A : Around} {pins : List (Addr × Obj)} {σ : L2.St} {d : GD} {It : Nat → V → Hp → Prop} {n : Nat} {a : Addr} {g k : Nat} {W O : List Addr} {H : Hp} {s : Shared} (u : Use X A pins d It n a g k W O H s) (I : Inv X pins σ H s) : Inv X (pins ++ pinsAt (a :: O) s.heap) σ H s :=
  I.pinned u.fp u.obj

/-! ### an expression whose value is a generator that has not begun -/
abbrev TGenW := L2.St → Hp → ((Nat → V → Hp → Prop) → Nat → Hp → Prop) → Prop
structure PGW (X : Cx) (kr : Nat) (e : Expr) (tg : TGenW) : Prop where
  run : ∀ (pins : List (Addr × Obj)) (s : Shared) (σ : L2.St) (H : Hp) (R : (Nat → V → Hp → Prop) → Nat → Hp → Prop), Inv X pins σ H s → tg σ H R → wpAny (model X.prog X.w) X.A (eval e X.env)
    (fun u s1 => ∃ (a g n : Nat) (It : Nat → V → Hp → Prop) (H1 : Hp) (L : Addr), u = .ref a ∧ Inv X pins σ H1 s1 ∧ a = L + 1 ∧ s1.heap.objs.size = a + 1 ∧ X.s_0.heap.objs.size ≤ L ∧ (∀ x c, X.env.cells.lookup x = some c → c < L) ∧ FpOk X pins H1 a ∧ FpOk X pins H1 L ∧ (∃ o, s1.heap.get? L = some o ∧ noCell o) ∧ R It n H1 ∧
      ∀ A, Room kr A → A.frames = some X.stack → ∃ d : GD, d.A = A ∧ d.L = L ∧ d.P = X.prog ∧ d.w = X.w ∧ d.K = X.K ∧ d.mg = X.mg ∧ d.base = X.base ∧ d.outer = X.stack ∧ GenAt d It n a g 0 [] [L] H1 s1) X.xe s
theorem fpOk_two {X : Cx} {pins : List (Addr × Obj)} {H : Hp} {a L : Addr} (h1 : FpOk X pins H a) (h2 : FpOk X pins H L) : ∀ b ∈ a :: [L], FpOk X pins H b := fun b hb => by
  rcases List.mem_cons.mp hb with z | z
  · exact z ▸ h1
  · exact (List.mem_singleton.mp z) ▸ h2

/-! ### for over it -/
def tForG (tg : TGenW) (g : TG) (tb : TS) : TS := fun D σ H => tg σ H fun It n H1 => ∃ Z : Nat → List Addr → L2.St → Hp → Prop, Z 0 [] σ H1 ∧
  (∀ k W σ H x H1 W1, Z k W σ H → k < n → It k x H1 → Chg W H H1 → (∀ b ∈ W1, (b ∈ W ∨ H b = none) ∧ ∃ ys, H1 b = some (.lst ys)) → g x σ H1 fun σ2 H2 => Mild W1 H1 H2 ∧ tb { D with nx := fun σ' H' => Mild W1 H2 H' ∧ Z (k + 1) W1 σ' H', ct := fun σ' H' => Mild W1 H2 H' ∧ Z (k + 1) W1 σ' H', bk := D.nx } σ2 H2) ∧
  ∀ W σ H H1, Z n W σ H → Chg W H H1 → D.nx σ H1
theorem ps_forG {X : Cx} {kr : Nat} {x : Str} {px : Pos} {iter : Expr} {body : List Stmt} {tg : TGenW} {g : TG} {tb : TS} {pos : Pos} (hx : ∀ e s, X.xe e s → False) (hc : X.calm = true) (hr : Room (kr + 1) X.A) (hi : PGW X kr iter tg) (hg : PG X (.Name x px) g) (hb : PSs X body tb)
    (hs : ∀ x, foldedSetIterable iter X.env x = pure x := by intro _; rfl) : PS X (.For (.Name x px) iter body [] pos) (tForG tg g tb) := by
  refine ⟨fun pins s σ H D I h => ?_⟩
  refine wpAny_For (thn (hi.run pins s σ H _ I h) fun v s1 h1 => ?_) hs
  obtain ⟨a, gi, n, It, H1, L, rfl, I1, ha, hsz, hL, hcell, fa, fL, oL, ⟨Z, z0, turn, fin⟩, mk⟩ := h1
  obtain ⟨d, dA, dL, dP, dw, dK, dm, db, dO, G1⟩ := mk X.A.in1 hr.in1 I.ok.frames
  refine wpAny_pyIter_gen G1.gen ?_
  have U1 : Use X X.A pins d It n a gi 0 [] [L] H1 s1 := ⟨G1, fpOk_two fa fL, dP, dw, dK, dm, db, dA, I.ok.frames, dO, fun x c e => by rw [dL]; exact hcell x c e, fun b hb => by
    rcases List.mem_cons.mp hb with z | z
    · obtain ⟨o, e, nc, _⟩ := isGen_noCell G1.gen
      exact ⟨o, z ▸ e, nc⟩
    · exact (List.mem_singleton.mp z) ▸ oL⟩
  refine codeAny_forLoop_any (fun j s' => ∃ k W O σ' H', j + k = n ∧ Inv X pins σ' H' s' ∧ Use X X.A pins d It n a gi k W O H' s' ∧ d.L = L ∧ Z k W σ' H') ?_ n ⟨0, [], [L], σ, H1, rfl, I1, U1, dL, z0⟩
  rintro j s3 ⟨k, W, O, σ3, H3, hjk, I3, U3, eL, z3⟩
  refine U3.next I3 (I.ok.hd hc) hr.depth (fun b h1 h2 => absurd (Nat.lt_of_lt_of_le h2 hL) (by rw [eL] at h1; exact Nat.not_lt.mpr h1)) (fun v y s4 H4 W4 O4 rv hk hit chg hW I4 U4 => ?_) (fun s4 H4 hk chg I4 => ?_)
  · dsimp only
    refine wpAny_pure ?_
    have I4p := U4.pinned I4
    refine wpAny_mono (pg_keep hx hg I4p rv (turn k W σ3 H3 y H4 W4 z3 hk hit chg fun b hb => ⟨hW b hb, U4.at_.wl b hb⟩)) (fun _ s5 q5 => ?_) fun _ _ q => q
    obtain ⟨⟨σ5, H5, I5, m5, q5⟩, k5⟩ := q5
    have susp4 : GF.IsSusp s4.gens gi := by
      obtain ⟨_, _, _, _, q, _⟩ := U4.at_.go
      rcases q with q | q
      · cases q
      · exact q
    have susp5 : GF.IsSusp s5.gens gi := by
      obtain ⟨kk, l, c, p, fs, cl, e⟩ := susp4
      exact ⟨kk, l, c, p, fs, cl, (k5 gi ⟨kk, l, c, p, fs, cl, e⟩).trans e⟩
    refine wpAny_mono (pss_keep hx hb I5 q5) (fun f s6 q6 => ?_) fun _ _ q => q
    obtain ⟨q6, k6⟩ := q6
    have again : ∀ {σ6 : L2.St} {H6 : Hp}, Inv X (pins ++ pinsAt (a :: O4) s4.heap) σ6 H6 s6 → Mild W4 H5 H6 → Z (k + 1) W4 σ6 H6 → ∃ m, m < j ∧ ∃ k W O σ' H', m + k = n ∧ Inv X pins σ' H' s6 ∧ Use X X.A pins d It n a gi k W O H' s6 ∧ d.L = L ∧ Z k W σ' H' := fun {σ6 H6} I6 m6 z6 =>
      ⟨j - 1, by omega, k + 1, W4, O4, σ6, H6, by omega, I6.unpinned, U4.stay I6 (m5.trans m6) ((k6 gi susp5).trans (k5 gi susp4)), eL, z6⟩
    cases f with
    | next => obtain ⟨σ6, H6, I6, m6, z6⟩ := q6; exact again I6 m6 z6
    | cont => obtain ⟨σ6, H6, I6, m6, z6⟩ := q6; exact again I6 m6 z6
    | brk => obtain ⟨σ6, H6, I6, z6⟩ := q6; exact ⟨σ6, H6, I6.unpinned, z6⟩
    | ret v => obtain ⟨x6, σ6, H6, I6, r6, z6⟩ := q6; exact ⟨x6, σ6, H6, I6.unpinned, r6, z6⟩
  · dsimp only
    subst hk
    exact wpAny_execs_nil ⟨σ3, H4, I4, fin W σ3 H3 H4 z3 chg⟩
end GL
/-! GenMake -/
set_option Elab.async false
set_option linter.all false
set_option maxRecDepth 100000
set_option maxHeartbeats 1000000
/-! A call of a generator def, by the def's body. -/
namespace GL
open PySem PySem.Spec PyProof.Rows L2

def gEnv (qual : Str) (scope : Scope) (L f : Addr) (cd : Value) : Env :=
  { scope := scope, locals := L, globals := mainGlobals, cells := [], qual := qual ++ ".<locals>.", func := some f, code := cd, frame := some L, builtins := builtinsNs }
def mkD (P : Program) (w : World) (K : PySem.W.Frag) (mg : Str → Option Value) (base : Heap) (N : List Str) (qual : Str) (scope : Scope) (L f : Addr) (cd : Value) (A : Around) (outer : List Env) : GD :=
  ⟨P, w, K, mg, base, N, gEnv qual scope L f cd, A, outer⟩
structure GScW (N P : List Str) (sc : Scope) : Prop where
  kind : sc.kind = .function
  co : sc.isCoroutine = false
  gen : sc.isGenerator = true
  nd : N.Nodup
  pre : N.take P.length = P
  par : ∀ x ∈ P, sc.names.lookup x = some .local
  flat : ∀ y ∈ sc.names, y.2 ≠ .free ∧ y.2 ≠ .cell
abbrev SpW := List V → Hp → (Nat → V → Hp → Prop) → Nat → Prop
def MadeW (P : Program) (w : World) (K : PySem.W.Frag) (mg : Str → Option Value) (base : Heap) (k : Nat) (outer : List Env) (H : Hp) (s : Shared) (It : Nat → V → Hp → Prop) (n : Nat) (u : Value) (s' : Shared) : Prop :=
  ∃ (a g : Nat), u = .ref a ∧ a = s.heap.objs.size + 1 ∧ s'.heap.objs.size = a + 1 ∧ s'.os = s.os ∧ AllBare s'.gens ∧ (∀ b o, s.heap.get? b = some o → s'.heap.get? b = some o) ∧ (∃ o, s'.heap.get? s.heap.objs.size = some o ∧ noCell o) ∧
    ∀ A, Room k A → A.frames = some outer → ∃ d : GD, d.A = A ∧ d.L = s.heap.objs.size ∧ d.P = P ∧ d.w = w ∧ d.K = K ∧ d.mg = mg ∧ d.base = base ∧ d.outer = outer ∧ GenAt d It n a g 0 [] [s.heap.objs.size] H s'
structure GFnW (P : Program) (w : World) (K : PySem.W.Frag) (mg : Str → Option Value) (base : Heap) (k : Nat) (f : Addr) (fd : FuncData) (ps : List Str) (sp : SpW) : Prop where
  len : ∀ vs H It n, sp vs H It n → vs.length = ps.length
  run : ∀ (A : Around) (outer : List Env) (s : Shared) (H : Hp) (args : Args) (us : List Value) (vs : List V) (It : Nat → V → Hp → Prop) (n : Nat), A.handled = none → A.depth < recursionLimit → Env0 P w K mg base A outer s H → BindsTo s fd args (ps.zip us) → Vals vs us → sp vs H It n →
    codeAny (model P w) A (.call (.ref f) args) (fun r s' => match r with | .ok (.ret u) => MadeW P w K mg base k outer H s It n u s' | _ => False) s

theorem lookup_of_mem {α : Type} : ∀ {l : List (Str × α)} {x : Str} {u : α}, (l.map Prod.fst).Nodup → (x, u) ∈ l → l.lookup x = some u
  | (y, v) :: r, x, u, nd, h => by
    rw [List.map_cons, List.nodup_cons] at nd
    rw [List.lookup_cons]
    rcases List.mem_cons.mp h with q | q
    · cases q
      rw [beq_self_eq_true]
    · have ne : (x == y) = false := beq_eq_false_iff_ne.mpr fun e => nd.1 (by
        have : x ∈ r.map Prod.fst := List.mem_map.mpr ⟨(x, u), q, rfl⟩
        rw [e] at this
        exact this)
      rw [ne]
      exact lookup_of_mem nd.2 q

theorem gfnw_of {P : Program} {w : World} {K : PySem.W.Frag} {mg : Str → Option Value} {base : Heap} {k : Nat} {f : Addr} {name qual : Str} {params : Arguments} {body : List Stmt} {scope : Scope} {dV kV doc pm cdv ct oc : Value} {an od : Option Addr} {osl : Array (Option Value)} {N ps : List Str} {sp : SpW}
    (lk : K.lookup f = some ⟨oc, od, .func (PySem.W.fnOf name qual params body scope dV kV doc pm an cdv ct), osl⟩) (hcd : PySem.W.codeIn K cdv qual = true) (S : GScW N ps scope) (len : ∀ vs H It n, sp vs H It n → vs.length = ps.length)
    (hbody : ∀ (L : Addr) (A : Around) (outer : List Env) (H : Hp) (vs : List V) (It : Nat → V → Hp → Prop) (n : Nat), Room k (A.deeper (gEnv qual scope L f cdv)) → sp vs H It n → (mkD P w K mg base N qual scope L f cdv A outer).Ok →
      ∃ t, GSs (mkD P w K mg base N qual scope L f cdv A outer) It n body t ∧ ∀ H2, Mild [] H H2 → t { nx := fun k' wk _ H' => k' = n ∧ Chg wk.W wk.H H' } 0 ⟨[], H2⟩ (start N vs) H2) :
    GFnW P w K mg base (k + 1) f (PySem.W.fnOf name qual params body scope dV kV doc pm an cdv ct) ps sp := by
  refine ⟨len, fun A outer s H args us vs It n hh hdp e0 hb r hsp => ?_⟩
  have hl := len _ _ _ _ hsp
  have KX : K.In s.heap := e0.mod.kin.keeps fun b o e => (e0.bs b o e).1
  have lim : s.heap.NoLimit := e0.mod.nolimit.keeps fun b o e => (e0.bs b o e).1
  have hpl : ps.length ≤ N.length := by
    have := congrArg List.length S.pre
    rw [List.length_take] at this
    omega
  refine codeAny_call_generator hdp (KX _ _ lk) rfl S.co S.gen rfl (PySem.W.codeRec_of KX hcd) (hb _ _ _ _ ?_)
  refine wpAny_newFunctionEnv (fun x hx => (S.flat x hx).2) (fun x hx => S.par x.1 (List.of_mem_zip (show (x.1, x.2) ∈ ps.zip us from hx)).1) (fun h' hns hsb => ?_) S.kind
  have hsz : h'.objs.size = s.heap.objs.size + 1 := by
    rw [hsb.1]
    exact Heap.size_push ..
  have hL : ∃ o, h'.get? s.heap.objs.size = some o ∧ noCell o := by
    obtain ⟨o, es, ep, ho, hd, _⟩ := hns
    exact ⟨o, ho, fun v q => by rw [hd] at q; cases q⟩
  have kp1 : ∀ b o, s.heap.get? b = some o → h'.get? b = some o := fun b o e => (hsb.2 b (Nat.ne_of_lt (Heap.lt_size e))).trans (Heap.get?_push_of_some _ e)
  refine ⟨lim.keeps kp1, ?_⟩
  have kp2 : ∀ (go : Obj) b o, s.heap.get? b = some o → (h'.push go).get? b = some o := fun go b o e => Heap.get?_push_of_some _ (kp1 b o e)
  refine ⟨h'.objs.size, s.gens.size, rfl, hsz, Heap.size_push .., rfl, AllBare.push e0.bare rfl, kp2 _, ?_, fun A2 hr2 hf2 => ?_⟩
  · obtain ⟨o, ho, nc⟩ := hL
    exact ⟨o, Heap.get?_push_of_some _ ho, nc⟩
  have below : ∀ b ∈ frs outer, b < s.heap.objs.size := fun b hb => by
    obtain ⟨_, o, ho, _⟩ := e0.funs.mem hb
    exact Heap.lt_size ho
  have ok : (mkD P w K mg base N qual scope s.heap.objs.size f cdv A2 outer).Ok := ⟨rfl, S.kind, rfl, rfl, rfl, fun x => ⟨fun q => (S.flat _ (PySem.mem_of_lookup q)).2 rfl, fun q => (S.flat _ (PySem.mem_of_lookup q)).1 rfl⟩, S.co, hr2.hd, e0.mod, e0.bsz, below⟩
  have ndP : ps.Nodup := by
    rw [← S.pre]
    exact S.nd.sublist (List.take_sublist _ _)
  have loc0 : Loc (mkD P w K mg base N qual scope s.heap.objs.size f cdv A2 outer) (start N vs) h' := by
    refine ⟨?_, _, hns, fun i y v h1 h2 h3 => ?_⟩
    · unfold L2.start
      show _ = N.length
      rw [List.length_append, List.length_map, List.length_replicate]
      omega
    · have hi : i < vs.length := by
        unfold L2.start at h2
        by_cases hi : i < vs.length
        · exact hi
        · rw [List.getElem?_append_right (by simpa using hi), List.getElem?_replicate] at h2
          split at h2 <;> cases h2
      have ha : vs[i]? = some v := by
        unfold L2.start at h2
        rw [List.getElem?_append_left (by simpa using hi), List.getElem?_map] at h2
        cases e : vs[i]? with
        | none =>
          rw [e] at h2
          cases h2
        | some z =>
          rw [e] at h2
          cases h2
          rfl
      obtain ⟨u, hu, rv⟩ := r.get ha
      have hp : ps[i]? = some y := by
        rw [← S.pre, List.getElem?_take_of_lt (by omega)]
        exact h1
      have hul : ps.length = us.length := by rw [← hl, r.length]
      refine ⟨u, rv, .inl ⟨S.par y (List.mem_of_getElem? hp), lookup_of_mem ?_ (List.mem_reverse.mpr (List.mem_of_getElem? (i := i) ?_))⟩⟩
      · rw [List.map_reverse, List.map_fst_zip (Nat.le_of_eq hul)]
        exact List.pairwise_reverse.mpr (ndP.imp fun q z => q z.symm)
      · rw [List.getElem?_zip_eq_some]
        exact ⟨hp, hu⟩
  have hLlt : s.heap.objs.size < h'.objs.size := by omega
  refine ⟨mkD P w K mg base N qual scope s.heap.objs.size f cdv A2 outer, rfl, rfl, rfl, rfl, rfl, rfl, rfl, rfl, ⟨⟨_, _, _, Heap.get?_push_size _ rfl, rfl, rfl, rfl⟩, fun q => ?_, Nat.le_of_lt hLlt, fun q => ?_, List.mem_cons_self, fun b hb => (by cases hb), .fresh (.func body (gEnv qual scope s.heap.objs.size f cdv)), n, Array.getElem?_push_size .., by omega, .inl rfl, fun s2 H2 bk => ?_⟩⟩
  · have z : h'.objs.size = s.heap.objs.size := List.mem_singleton.mp q
    omega
  · have z : h'.objs.size < s.heap.objs.size := below _ q
    omega
  obtain ⟨t, ht, hq⟩ := hbody s.heap.objs.size A2 outer H vs It n (hr2.deeper _) hsp ok
  show SegW _ _ _ _ (.point [] fun _ => ((execs body (gEnv qual scope s.heap.objs.size f cdv)).onRaise (leaving (gEnv qual scope s.heap.objs.size f cdv))) >>= _) [] s2
  refine segw_point ?_
  rw [Sem.onRaise_eq_wrap, Sem.bind_eq_wrap', Sem.wrap_wrap]
  obtain ⟨bo, bh⟩ := bk.own s.heap.objs.size List.mem_cons_self
  obtain ⟨oL, hoL, ncL⟩ := hL
  have locP : Loc (mkD P w K mg base N qual scope s.heap.objs.size f cdv A2 outer) (start N vs) s2.heap := loc0.of ok (by
    show s2.heap.get? s.heap.objs.size = h'.get? s.heap.objs.size
    rw [hoL]
    exact bo.trans (Heap.get?_push_of_some _ hoL))
  have at0 : At (mkD P w K mg base N qual scope s.heap.objs.size f cdv A2 outer) [] [s.heap.objs.size] ⟨[], H2⟩ s2 (start N vs) H2 s2 :=
    ⟨wake ok bk.env bh List.mem_cons_self locP (fun p hp => (by cases hp)), List.mem_cons_self, fun p hp => (by cases hp), let ⟨_, _, hn, _⟩ := locP; hn.lt, Nat.le_refl _⟩
  refine ht.run [] n 0 ⟨[], H2⟩ [s.heap.objs.size] s2 _ [] _ _ _ _ s2 (start N vs) H2 _ ⟨GenW.over_func, rfl, rfl, rfl⟩ (by omega) (fun m k' wk O₀ s₀ s3 fl hn q => ?_) at0 (hq H2 bk.mild)
  cases fl with
  | next =>
    obtain ⟨σ', H', a', q1, q2⟩ := q
    refine segw_end (.ok (.ret .none)) ?_
    have w1 := wk_of ok a'.inv
    cases m <;> exact ⟨rfl, q1, H', w1, q2⟩
  | brk => obtain ⟨_, _, _, q⟩ := q; exact q.elim
  | cont => obtain ⟨_, _, _, q⟩ := q; exact q.elim
  | ret v => exact q.elim

/-! ### f(e, ..) as an expression -/
def tCallW (sp : SpW) (t : TA) : TGenW := fun σ H R => t σ H fun vs H1 => ∃ It n, sp vs H1 It n ∧ R It n H1
theorem pgw_call {X : Cx} {k : Nat} {f : Addr} {fd : FuncData} {ps : List Str} {sp : SpW} {x : Str} {p pos : Pos} {e : Expr} {es : List Expr} {t : TA} (F : GFnW X.prog X.w X.K X.mg X.base k f fd ps sp) (hc : X.calm = true) (hr : X.A.depth < recursionLimit) (hg : Gl X x) (hm : X.mg x = some (.ref f)) (hk : PySem.W.keepIn X.K (.ref f) = true)
    (hb : Binds X.K fd ps []) (ha : PA X (e :: es) t) (hdb : (x == ("__debug__" : Str)) = false := by decide) (he : starEach (e :: es) X.env = (false, eval e X.env) :: starEach es X.env := by rfl) (hpl : (backTo pos (starEach es X.env)).any (·.1) = false := by rfl) :
    PGW X k (.Call (.Name x p) (e :: es) [] pos) (tCallW sp t) := by
  refine ⟨fun pins s σ H R I h => ?_⟩
  refine wpAny_Call_Name_kw (ld_glob I hg hm ?_ hdb)
  refine PySem.W.callWith_K (h₀ := X.base) I.ok.mod.kin hk (thn (ha.run pos pins s σ H _ I h) fun us s1 q => ?_) he hpl
  obtain ⟨vs, H1, I1, r, It, n, hsp, q⟩ := q
  refine ⟨I1.kIn, ?_⟩
  have hl : (us ++ []).length = ps.length := by
    rw [List.append_nil, ← r.length]
    exact F.len _ _ _ _ hsp
  have hbd := hb s1 us I1.kIn hl
  rw [List.append_nil] at hbd
  refine wpAny_call (codeAny_mono (F.run X.A X.stack s1 H1 ⟨us, []⟩ us vs It n (I1.ok.hd hc) hr I1.env0 hbd r hsp) fun rr s' hq => ?_)
  cases rr with
  | error e => exact hq.elim
  | ok fl =>
    cases fl with
    | next => exact hq.elim
    | brk => exact hq.elim
    | cont => exact hq.elim
    | ret u =>
      obtain ⟨a, g, rfl, ha, hsz, hos, hbr, hkp, hoL, mk⟩ := hq
      have I2 : Inv X pins σ H1 s' := I1.call' (ch := []) hos (Un.kept hkp) (I1.hok.kept hkp) hbr fun b z => by cases z
      have hLa : s1.heap.objs.size ≤ a := by omega
      refine ⟨a, g, n, It, H1, s1.heap.objs.size, rfl, I2, ha, hsz, I1.sz, fun y c ec => ?_, I1.fpOk hLa (I1.hok.fresh hLa), I1.fpOk (Nat.le_refl _) (I1.hok.fresh (Nat.le_refl _)), hoL, q, fun A hrA hfA => mk A hrA hfA⟩
      obtain ⟨v, o, ho, _⟩ := I1.cell y c ec
      exact Heap.lt_size ho
end GL
/-! GenComp1 -/
set_option Elab.async false
set_option linter.all false
set_option maxRecDepth 100000
set_option maxHeartbeats 1000000
/-! [elt for x in g(..)]. -/
namespace GL
open PySem PySem.Spec PyProof.Rows L2

/-- Z: the items so far, the generator's lists, the heap; D the new list -/
def tLcG (tg : TGenW) (g : TG) (te : TE) (vs : List Nat) : TE := fun σ H Q => tg σ H fun It n H1 => ∀ D, H1 D = none → ∃ Z : Nat → List Addr → Hp → Prop, Z 0 [] (upd H1 D (.lst [])) ∧ (∀ k W H, Z k W H → ∃ acc, H D = some (.lst acc)) ∧
  (∀ k W H x H1 W1, Z k W H → k < n → It k x H1 → Chg W H H1 → (∀ b ∈ W1, (b ∈ W ∨ H b = none) ∧ ∃ ys, H1 b = some (.lst ys)) → g x (wipe σ vs) H1 fun σ2 H2 => wipe σ2 vs = wipe σ vs ∧ Mild W1 H1 H2 ∧
    te σ2 H2 fun y H3 => Mild W1 H2 H3 ∧ D ∉ W1 ∧ ∃ acc, H3 D = some (.lst acc) ∧ acc.length < sizeLine ∧ Z (k + 1) W1 (upd H3 D (.lst (acc ++ [y])))) ∧
  ∀ W H H1, Z n W H → Chg W H H1 → Q (.ref D) H1

theorem pe_lcG {X : Cx} {kr : Nat} {elt iter : Expr} {x : Str} {px : Pos} {scope : Scope} {own : List (Str × Nat)} {pos : Pos} {tg : TGenW} {g : TG} {te : TE} (hx : ∀ e s, X.xe e s → False) (hc : X.calm = true) (hr : Room (kr + 1) X.A) (hN : X.N.Nodup) (hi : PGW X kr iter tg) (ok : BlkOk X.N X.env.scope scope own)
    (hcl : ∀ n, cellsFrom n scope.names (cloFrom X.env.cells scope.names []) = [])
    (hg : ∀ (s : Shared) (H : Hp) (C : Addr) (cl : List (Str × Addr)) (fp : List Addr), PG (X.blk s H scope (compEnvC scope cl C X.env) fp) (.Name x px) g)
    (he : ∀ (s : Shared) (H : Hp) (C : Addr) (cl : List (Str × Addr)) (fp : List Addr), PE (X.blk s H scope (compEnvC scope cl C X.env) fp) elt te) (hs : ∀ x, foldedSetIterable iter X.env x = pure x := by intro _; rfl) :
    PE X (.ListComp elt [⟨.Name x px, iter, [], 0⟩] scope pos) (tLcG tg g te (own.map (·.2))) := by
  refine ⟨fun pins s σ H Q I h => ?_⟩
  rw [eval_ListComp]
  have hfree : ∀ y ∈ scope.names, y.2 = .free → ∃ c, X.env.cells.lookup y.1 = some c := fun y hy e => (ok.free y hy e).elim (fun k => I.ok.has _ (.inl k)) fun k => I.ok.has _ (.inr k)
  refine wpAny_comprehension_free rfl hs (closure_ok hfree) ok.kind (fun y hy e => by rw [ok.uniq y hy, e]) (thn (hi.run pins s σ H _ I h) fun xv s1 hx1 => ?_)
  obtain ⟨a, gi, n, It, H1, L, rfl, I1, ha, hsz, hL, hcell, fa, fL, oL, q, mk⟩ := hx1
  obtain ⟨d, dA, dL, dP, dw, dK, dm, db, dO, G1⟩ := mk X.A.in1 hr.in1 I.ok.frames
  refine wpAny_pyIter_gen G1.gen ?_
  refine wpAny_newObj_type (newEnv_comp ?_) (by show 0 ≤ sizeLine; decide)
  generalize hD : s1.heap.objs.size = D
  have hDn : H1 D = none := I1.hok.fresh (Nat.le_of_eq hD)
  obtain ⟨Z, z0, hZD, turn, fin⟩ := q D hDn
  generalize hs3 : ({ s1 with heap := s1.heap.push { cls := .type "list", data := .seq ([] : List Value).toArray } } : Shared) = s3
  have I3 : Inv X pins σ (upd H1 D (.lst [])) s3 := by
    rw [← hs3]
    refine I1.laid (t' := s1.toks) (fun b o e => Heap.get?_push_of_some _ e) (Nat.le_of_eq hD) ⟨Nat.zero_le _, [], 0, .nil, ?_⟩
    rw [← hD]
    exact Heap.get?_push_size _ rfl
  have h3 : s3.heap = s1.heap.push { cls := .type "list", data := .seq ([] : List Value).toArray } := by rw [← hs3]
  have g3 : s3.gens = s1.gens := by rw [← hs3]
  have sz3 : s3.heap.objs.size = a + 2 := by
    rw [h3, Heap.size_push, hsz]
  have hDa : D = a + 1 := by omega
  have fpx := fpOk_two fa fL
  have f3 : ∀ b ∈ a :: [L], FpOk X pins (upd H1 D (.lst [])) b ∧ b < s3.heap.objs.size := fun b hb => by
    have hlt : b < D := by
      rcases List.mem_cons.mp hb with z | z
      · omega
      · have := List.mem_singleton.mp z
        omega
    refine ⟨⟨?_, (fpx b hb).2⟩, by omega⟩
    rw [upd_ne (Nat.ne_of_lt hlt)]
    exact (fpx b hb).1
  have I4 := block_start I3 ok hN f3
  have pg := hg s3 (upd H1 D (.lst [])) s3.heap.objs.size (cellsFrom (s3.heap.objs.size + 1) scope.names (cloFrom X.env.cells scope.names [])) (a :: [L])
  have pe := he s3 (upd H1 D (.lst [])) s3.heap.objs.size (cellsFrom (s3.heap.objs.size + 1) scope.names (cloFrom X.env.cells scope.names [])) (a :: [L])
  have hcl3 := hcl (s3.heap.objs.size + 1)
  show codeAny _ _ (.compStart (.ListComp elt [⟨.Name x px, iter, [], 0⟩] scope pos) 0 (.ref a) (.ref D) (compEnvC scope (cellsFrom (s3.heap.objs.size + 1) scope.names (cloFrom X.env.cells scope.names [])) s3.heap.objs.size X.env)) (compPost (model X.prog X.w) X.A X.xe none (EP X pins σ Q) (.ref D) s3.heap.objs.size) { s3 with heap := pushCells (s3.heap.push { cls := .type "dict", data := .dict #[] }) scope.names }
  generalize hce : compEnvC scope (cellsFrom (s3.heap.objs.size + 1) scope.names (cloFrom X.env.cells scope.names [])) s3.heap.objs.size X.env = ce at I4 pg pe ⊢
  have cL : ce.locals = s3.heap.objs.size := by subst hce; rfl
  have cC : ce.cells = [] := by
    subst hce
    exact hcl3
  generalize hH3 : upd H1 D (.lst []) = H3 at I3 I4 pg pe z0 f3
  generalize hs4 : ({ s3 with heap := pushCells (s3.heap.push { cls := .type "dict", data := .dict #[] }) scope.names } : Shared) = s4 at I4 ⊢
  have kp4 : ∀ b o, s1.heap.get? b = some o → s4.heap.get? b = some o := fun b o e => by
    rw [← hs4]
    refine pushCells_keeps _ _ _ _ (Heap.get?_push_of_some _ ?_)
    rw [h3]
    exact Heap.get?_push_of_some _ e
  have g4 : s4.gens = s1.gens := by
    rw [← hs4]
    exact g3
  have sm3 : Same H1 H3 := fun b o e => by
    rw [← hH3, upd_ne (ne_of_none e hDn)]
    exact e
  obtain ⟨oa, hoa, nca, _⟩ := isGen_noCell G1.gen
  obtain ⟨o1, ho1, nc1⟩ := oL
  have G4 : GenAt d It n a gi 0 [] [L] H3 s4 := G1.moved ((kp4 a oa hoa).trans hoa.symm) (fun b hb => by
    have e : b = L := List.mem_singleton.mp hb
    rw [e]
    exact (kp4 L o1 ho1).trans ho1.symm) (.of_same sm3) (by rw [g4])
  have U4 : Use (X.blk s3 H3 scope ce (a :: [L])) X.A [] d It n a gi 0 [] [L] H3 s4 := ⟨G4, fun b hb => ⟨(f3 b hb).1.1, (I4.ok.exf b hb).1, I4.ok.exfs b hb, .inl hb, fun y c e => (I4.ok.exf b hb).2 y c e, fun p hp => absurd (show p ∈ ([] : List (Addr × Obj)) ++ [] from hp) (by simp)⟩, dP, dw, dK, dm, db, dA, I.ok.frames, dO, fun y c e => absurd (show ce.cells.lookup y = some c from e) (by rw [cC]; intro z; cases z), fun b hb => by
    rcases List.mem_cons.mp hb with z | z
    · exact ⟨oa, z ▸ kp4 a oa hoa, nca⟩
    · exact ⟨o1, (List.mem_singleton.mp z) ▸ kp4 L o1 ho1, nc1⟩⟩
  have loop : codeAny (model X.prog X.w) X.A (.compLoop (.ListComp elt [⟨.Name x px, iter, [], 0⟩] scope pos) 0 (.ref a) (.ref D) ce) (compPost (model X.prog X.w) X.A X.xe none (EP X pins σ Q) (.ref D) s3.heap.objs.size) s4 := by
    refine compLoop_any (fun j s' => ∃ k W O H', j + k = n ∧ Inv (X.blk s3 H3 scope ce (a :: [L])) [] (wipe σ (own.map (·.2))) H' s' ∧ Use (X.blk s3 H3 scope ce (a :: [L])) X.A [] d It n a gi k W O H' s' ∧ Z k W H') ?_ n ⟨0, [], [L], H3, rfl, I4, U4, z0⟩
    rintro j s5 ⟨k, W, O, H5, hjk, I5, U5, z5⟩
    refine U5.next I5 (I.ok.hd hc) hr.depth (fun b h1 h2 => ?_) (fun v y s6 H6 W6 O6 rv hk hit chg hW I6 U6 => ?_) (fun s6 H6 hk chg I6 => ?_)
    · have h2' : b < s3.heap.objs.size := h2
      rw [dL] at h1 ⊢
      rw [sz3] at h2'
      by_cases e1 : b = L
      · exact .inl e1
      by_cases e2 : b = a
      · exact .inr (.inl e2)
      refine .inr (.inr ?_)
      obtain ⟨acc, e⟩ := hZD k W H5 z5
      have e3 : b = D := by
        have e1' : ¬ (@Eq Nat b L) := e1
        have e2' : ¬ (@Eq Nat b a) := e2
        have h1' : @LE.le Nat _ L b := h1
        have h3' : @LT.lt Nat _ b (a + 2) := h2'
        show @Eq Nat b D
        omega
      exact ⟨_, e3 ▸ e⟩
    · dsimp only
      refine wpAny_pure ?_
      have I6p := U6.pinned I6
      have susp6 : GF.IsSusp s6.gens gi := by
        obtain ⟨_, _, _, _, q, _⟩ := U6.at_.go
        rcases q with q | q
        · cases q
        · exact q
      have on : ∀ {G : Array GenState} {s' : Shared}, GF.IsSusp G gi → (∀ i, GF.IsSusp G i → s'.gens[i]? = G[i]?) → GF.IsSusp s'.gens gi ∧ s'.gens[gi]? = G[gi]? := fun {G s'} hG k => by
        obtain ⟨kk, l, c, p, fs, cl, e⟩ := id hG
        exact ⟨⟨kk, l, c, p, fs, cl, (k gi hG).trans e⟩, k gi hG⟩
      refine wpAny_mono (pg_keep (fun _ _ z => z) pg I6p rv (turn k W H5 y H6 W6 z5 hk hit chg fun b hb => ⟨hW b hb, U6.at_.wl b hb⟩)) (fun _ s7 q7 => ?_) fun _ _ z => z
      obtain ⟨⟨σ7, H7, I7, w7, m7, q7⟩, k7⟩ := q7
      obtain ⟨susp7, e7⟩ := on susp6 k7
      refine wpAny_tests_nil ?_
      rw [if_pos rfl]
      refine wpAny_mono (pe_keep (fun _ _ z => z) pe I7 q7) (fun z s8 q8 => ?_) fun _ _ z => z
      obtain ⟨⟨y8, H8, I8, r8, m8, nD, acc, hacc, hlen, z8⟩, k8⟩ := q8
      obtain ⟨susp8, e8⟩ := on susp7 k8
      refine wpAny_mono (keep_run (Q := fun _ s' => Inv (X.blk s3 H3 scope ce (a :: [L])) ([] ++ pinsAt (a :: O6) s6.heap) σ7 (upd H8 D (.lst (acc ++ [y8]))) s') (E := fun _ _ => False) I8.bare (fun G hG => app_ok (X := X.blk s3 H3 scope ce (a :: [L])) (inv_gens I8 hG) hacc hlen r8 fun s9 I9 => I9) (fun _ s' G q hG => inv_ungens q (hG q.bare)) fun _ _ z => z) (fun _ s9 q9 => ?_) fun _ _ z => z
      obtain ⟨I9, k9⟩ := q9
      obtain ⟨susp9, e9⟩ := on susp8 k9
      have m9 : Mild W6 H8 (upd H8 D (.lst (acc ++ [y8]))) := fun b o e nl => by
        by_cases eb : b = D
        · rw [eb, hacc] at e
          exact absurd (eb ▸ nl acc (Option.some.inj e).symm) nD
        · rw [upd_ne eb]
          exact e
      have U9 := U6.stay I9 ((m7.trans m8).trans m9) (e9.trans (e8.trans e7))
      refine ⟨j - 1, by omega, k + 1, W6, O6, _, by omega, (I9.unpinned (pins := [])).weak (by rw [← w7, wipe_length]) (fun i v e => ?_), U9, z8⟩
      rw [← w7] at e
      exact (wipe_some e).1
    · subst hk
      have I7 : Inv X pins σ H6 s6 := I3.call' (ch := a :: [L]) I6.os I6.base I6.hok I6.bare fun b hb => ⟨(f3 b hb).1.2.2.2.1, (f3 b hb).1.2.1, (f3 b hb).1.2.2.2.2.1, (f3 b hb).1.2.2.2.2.2⟩
      have nC : H6 s3.heap.objs.size = none := by
        have z : H6 ce.locals = none := I6.free
        rw [cL] at z
        exact z
      obtain ⟨m, hn, _⟩ := I6.loc
      have hn : s6.heap.Ns ce.locals m := hn
      rw [cL] at hn
      obtain ⟨f0, f1, f2, f3', f4, f5⟩ := I3.fpOk (Nat.le_refl _) nC
      exact ⟨m, hn, fun h'' sb => ⟨.ref D, H6, I7.turned (t' := s6.toks) (fun b o hb e => (sb.2 b hb).trans e) f0 f1 f3' f4 f5, rfl, fin W H5 H6 z5 chg⟩⟩
  exact codeAny_compStart_list loop (wpAny_pyIter_gen G4.gen loop)
end GL
/-! GenList1 -/
set_option Elab.async false
set_option linter.all false
set_option maxRecDepth 100000
set_option maxHeartbeats 1000000
/-! list(g(..)). -/
namespace GL
open PySem PySem.Spec PyProof.Rows L2

theorem pin_add {X : Cx} {pins : List (Addr × Obj)} {σ : L2.St} {H : Hp} {s : Shared} {S : Addr} {o : Obj} (I : Inv X pins σ H s) (f : FpOk X pins H S) (e : s.heap.get? S = some o) (nc : noCell o) : Inv X (pins ++ [(S, o)]) σ H s :=
  I.pins_of fun p hp => by
    rcases List.mem_append.mp hp with z | z
    · exact I.pin p (List.mem_append_right _ z)
    · have z := List.mem_singleton.mp z
      subst z
      exact ⟨e, f.1, f.2.1, f.2.2.1, nc⟩
theorem lst_noCell (acc : Array Value) (c : Nat) : noCell (lstObj acc c) := fun v q => by cases q

/-- the turns of list(g): Z as in a comprehension, acc what stands in the list S -/
theorem drain_w {X : Cx} {A : Around} {pins : List (Addr × Obj)} {σ : L2.St} {d : GD} {It : Nat → V → Hp → Prop} {n : Nat} {a S L : Addr} {g : Nat} {res : Value} {R : Result → Shared → Prop} (Z : Nat → List V → List Addr → Hp → Prop) (hh : A.handled = none) (hdp : A.depth < recursionLimit) (hle : n ≤ sizeLine) (hL : X.s_0.heap.objs.size ≤ L) (hLS : L ≤ S)
    (turn : ∀ k ys W H x H1 W1, Z k ys W H → k < n → It k x H1 → Chg W H H1 → (∀ b ∈ W1, b ∈ W ∨ H b = none) → Z (k + 1) (ys ++ [x]) W1 H1)
    (hend : ∀ ys W H H1 s' acc c, ys.length = n → Z n ys W H → Chg W H H1 → Inv X pins σ H1 s' → s'.heap.get? S = some (lstObj acc c) → Vals ys acc.toList → H1 S = none → R (.ok (.ret res)) s') :
    ∀ (j k : Nat) (ys : List V) (W O : List Addr) (H : Hp) (s : Shared) (acc : Array Value) (c : Nat), j + k = n → ys.length = k → Vals ys acc.toList → Inv X (pins ++ [(S, lstObj acc c)]) σ H s → FpOk X pins H S → Use X A.in1 (pins ++ [(S, lstObj acc c)]) d It n a g k W O H s → d.L = L → Z k ys W H → S ∉ a :: O →
      codeAny (model X.prog X.w) A (.builtin "list.extend.loop" ⟨[.ref S, .ref a, res], []⟩) R s := by
  have start : ∀ {k : Nat} {ys : List V} {W O : List Addr} {H : Hp} {s : Shared} {acc : Array Value} {c : Nat} {Q : Option Value → Shared → Prop} {E : Value → Shared → Prop}, Inv X (pins ++ [(S, lstObj acc c)]) σ H s → Use X A.in1 (pins ++ [(S, lstObj acc c)]) d It n a g k W O H s → d.L = L →
      (∀ (v : Value) (x : V) (s1 : Shared) (H1 : Hp) (W1 O1 : List Addr), RelV x v → k < n → It k x H1 → Chg W H H1 → (∀ b ∈ W1, b ∈ W ∨ H b = none) → Inv X (pins ++ [(S, lstObj acc c)]) σ H1 s1 → Use X A.in1 (pins ++ [(S, lstObj acc c)]) d It n a g (k + 1) W1 O1 H1 s1 → Q (some v) s1) →
      (∀ (s1 : Shared) (H1 : Hp), k = n → Chg W H H1 → Inv X (pins ++ [(S, lstObj acc c)]) σ H1 s1 → Q none s1) → wpAny (model X.prog X.w) A.in1 (pyNext (.ref a)) Q E s := fun {k ys W O H s acc c Q E} I U eL hY hN =>
    U.next I hh hdp (fun b h1 h2 => absurd (Nat.lt_of_lt_of_le h2 hL) (by rw [eL] at h1; exact Nat.not_lt.mpr h1)) hY hN
  intro j
  induction j with
  | zero =>
    intro k ys W O H s acc c hjk hyl hv I fS U eL z nS
    refine codeAny_builtin F.entry_extend_loop ?_
    rw [Around.under_plainId F.plain_extend_loop _]
    show wpAny _ A.in1 (pyNext (.ref a) >>= _) _ _ s
    refine wpAny_bind (start (ys := ys) I U eL (fun v x s1 H1 W1 O1 rv hk _ _ _ _ _ => absurd hk (by omega)) (fun s1 H1 hk chg I1 => ?_))
    subst hk
    obtain ⟨e1, e2, _⟩ := I1.pin (S, lstObj acc c) (List.mem_append_right _ (List.mem_append_right _ (List.mem_singleton.mpr rfl)))
    exact wpAny_pure (hend ys W H H1 s1 acc c hyl z chg I1.unpinned e1 hv e2)
  | succ j ih =>
    intro k ys W O H s acc c hjk hyl hv I fS U eL z nS
    refine codeAny_builtin F.entry_extend_loop ?_
    rw [Around.under_plainId F.plain_extend_loop _]
    show wpAny _ A.in1 (pyNext (.ref a) >>= _) _ _ s
    refine wpAny_bind (start (ys := ys) I U eL (fun v x s1 H1 W1 O1 rv hk hit chg hW I1 U1 => ?_) (fun s1 H1 hk chg I1 => absurd hk (by omega)))
    obtain ⟨e1, e2, _⟩ := I1.pin (S, lstObj acc c) (List.mem_append_right _ (List.mem_append_right _ (List.mem_singleton.mpr rfl)))
    have hsz : acc.size = k := by
      have q := hv.length
      have q2 : acc.toList.length = acc.size := by simp
      omega
    show wpAny _ A.in1 (updateSeq S (·.push v) >>= _) _ _ _
    refine wpAny_bind (wpAny_updateSeq e1 rfl (wpAny_pure ⟨plainId_quiet F.plain_extend_loop _, ?_⟩) (by omega) (by show (acc.push v).size ≤ sizeLine + 1; rw [Array.size_push]; omega))
    have keep3 : ∀ b o, b ≠ S → s1.heap.get? b = some o → (s1.heap.update S (Obj.mapSeq (·.push v))).get? b = some o := fun b o hb e => (Heap.get?_update_other _ _ (Ne.symm hb)).trans e
    have fS1 : FpOk X pins H1 S := ⟨e2, fS.2⟩
    have I2 : Inv X pins σ H1 { s1 with heap := s1.heap.update S (Obj.mapSeq (·.push v)) } := I1.unpinned.turned (t' := s1.toks) keep3 fS1.1 fS1.2.1 fS1.2.2.2.1 fS1.2.2.2.2.1 fS1.2.2.2.2.2
    obtain ⟨c', e3⟩ : ∃ c', (s1.heap.update S (Obj.mapSeq (·.push v))).get? S = some (lstObj (acc.push v) c') := ⟨_, Heap.get?_update_self _ e1 rfl⟩
    have nS1 : ∀ b ∈ a :: O1, b ≠ S := fun b hb e => (U1.fp b hb).2.2.2.2.2 (S, lstObj acc c) (List.mem_append_right _ (List.mem_append_right _ (List.mem_singleton.mpr rfl))) e.symm
    refine ih (k + 1) (ys ++ [x]) W1 O1 H1 _ (acc.push v) c' (by omega) (by rw [List.length_append, List.length_singleton, hyl]) (by rw [Array.toList_push]; exact hv.append (.cons rv .nil)) (pin_add I2 fS1 e3 (lst_noCell _ _)) fS1 ?_ eL (turn k ys W H x H1 W1 z hk hit chg hW) (fun q => nS1 S q rfl)
    refine ⟨U1.at_.moved ((Heap.get?_update_other _ _ (Ne.symm (nS1 a List.mem_cons_self)))) (fun b hb => Heap.get?_update_other _ _ (Ne.symm (nS1 b (List.mem_cons_of_mem _ hb)))) (Mild.refl _ _) rfl, fun b hb => ?_, U1.P, U1.w, U1.K, U1.mg, U1.base, U1.dA, U1.fr, U1.outer, U1.cells, fun b hb => ?_⟩
    · obtain ⟨f0, f1, f2, f3, f4, f5⟩ := U1.fp b hb
      refine ⟨f0, f1, f2, f3, f4, fun p hp => ?_⟩
      rcases List.mem_append.mp hp with q | q
      · exact f5 p (List.mem_append_left _ q)
      · rcases List.mem_append.mp q with q | q
        · exact f5 p (List.mem_append_right _ (List.mem_append_left _ q))
        · rw [List.mem_singleton.mp q]
          exact Ne.symm (nS1 b hb)
    · obtain ⟨o, e, nc⟩ := U1.obj b hb
      exact ⟨o, keep3 b o (nS1 b hb) e, nc⟩

/-- a list that nobody held is held -/
theorem take_list {X : Cx} {pins : List (Addr × Obj)} {σ : L2.St} {H : Hp} {s : Shared} {S : Addr} {acc : Array Value} {c : Nat} {ys : List V} (I : Inv X pins σ H s) (f : FpOk X pins H S) (e : s.heap.get? S = some (lstObj acc c)) (r : Vals ys acc.toList) (hl : ys.length ≤ sizeLine) : Inv X pins σ (upd H S (.lst ys)) s := by
  have ne : ∀ {b : Addr} {o : HO}, H b = some o → b ≠ S := fun {b o} q => ne_of_none q f.1
  refine I.call' (ch := [S]) rfl ⟨fun b o q _ _ _ => q, fun b o q _ _ _ => ⟨o.slots, q⟩, fun b o q n hb => ?_, fun b o q _ => ⟨o, q⟩, fun b xs q => ?_, fun b o u q => ?_, fun b ps q => ⟨#[], ?_⟩⟩ (fun b u q => ?_) I.bare fun b hb => ?_
  · rw [upd_ne fun z => hb (List.mem_singleton.mpr z)]
    exact n
  · rw [upd_ne (ne q)]
    exact q
  · rw [upd_ne (ne q)]
    exact q
  · rw [upd_ne (ne q), q]
    simp
  · by_cases hb : b = S
    · subst hb
      rw [upd_same] at q
      cases q
      exact ⟨hl, acc.toList, c, r, e⟩
    · rw [upd_ne hb] at q
      exact (I.hok b u q).stay (fun c v _ z => z) (fun c z => by rw [upd_ne (ne z)]; exact z) fun c xs z => by rw [upd_ne (ne z)]; exact z
  · have z := List.mem_singleton.mp hb
    subst z
    exact ⟨f.2.2.2.1, f.2.1, f.2.2.2.2.1, f.2.2.2.2.2⟩
def tListW (tg : TGenW) : TE := fun σ H Q => tg σ H fun It n H1 => n ≤ sizeLine ∧ ∃ Z : Nat → List V → List Addr → Hp → Prop, Z 0 [] [] H1 ∧
  (∀ k ys W H x H1 W1, Z k ys W H → k < n → It k x H1 → Chg W H H1 → (∀ b ∈ W1, b ∈ W ∨ H b = none) → Z (k + 1) (ys ++ [x]) W1 H1) ∧
  ∀ ys W H H1 p, Z n ys W H → Chg W H H1 → H1 p = none → Q (.ref p) (upd H1 p (.lst ys))
theorem pe_listW {X : Cx} {kr : Nat} {e : Expr} {tg : TGenW} {nm : Str} {p pos : Pos} (h : PGW X kr e tg) (hx : ∀ e s, X.xe e s → False) (hc : X.calm = true) (hr : Room (kr + 3) X.A) (hg : Gl X nm) (hmg : X.mg nm = none) (hv : bootBuiltins nm = some (.type "list")) (hnm : nm ≠ "__name__" := by decide) (hdb : (nm == ("__debug__" : Str)) = false := by decide)
    (he : starEach [e] X.env = (false, eval e X.env) :: starEach [] X.env := by rfl) : PE X (.Call (.Name nm p) [e] [] pos) (tListW tg) := by
  refine ⟨fun pins s σ H Q I hq => ?_⟩
  refine wpAny_Call_Name_kw (ld_blt I hg hmg hv ?_ hnm hdb)
  refine PyProof.Rows.callWith_type1 ?_ he rfl
  rw [he]
  show wpAny _ _ (spliced ((false, eval e X.env) :: backTo pos (starEach [] X.env))) _ _ s
  refine Calls.spliced_cons (thn (h.run pins s σ H _ I hq) fun u s1 h1 => ?_)
  obtain ⟨a, g, n, It, H1, L, rfl, I1, ha, hsz, hL, hcell, fa, fL, oL, ⟨hle, Z, z0, turn, fin⟩, mk⟩ := h1
  refine Calls.spliced_nil ?_
  have hrA : Room kr X.A.in1.in1.in1 := ⟨hr.hd, by have := hr.dp; show X.A.depth + 3 * kr + 5 < _; omega, by have := hr.un; show X.A.units + 1 + 1 + 1 + 16 * kr + 200 < _; omega⟩
  obtain ⟨d, dA, dL, dP, dw, dK, dm, db, dO, G1⟩ := mk X.A.in1.in1.in1 hrA I.ok.frames
  generalize hS : s1.heap.objs.size = S
  have haS : a < S := by omega
  have hLS : L < S := by
    rw [← hS, hsz, ha]
    exact Nat.lt_succ_of_lt (Nat.lt_succ_self L)
  refine callType_codes (Q₁ := fun obj s₁ => obj = .ref s1.heap.objs.size ∧ s₁ = { s1 with heap := s1.heap.push { cls := .type "list", data := .seq #[] } }) F.called_list (F.typeCall_list_1 _) F.entry_list_init (code_list_new _ ⟨rfl, rfl⟩) fun obj s₁ h₁ => ?_
  obtain ⟨rfl, rfl⟩ := h₁
  rw [hS]
  have e0 : (s1.heap.push { cls := .type "list", data := .seq #[] }).get? S = some { cls := .type "list", data := .seq #[] } := by
    rw [← hS]
    exact Heap.get?_push_size _ rfl
  refine ⟨⟨_, e0, rfl⟩, F.args_list_init_2 _ _, ?_⟩
  show wpAny _ X.A.in1.in1 (do let old ← Builtin.List.listItems (.ref S); Builtin.List.listUpdate (.ref S) (fun _ => #[]); letGo old.toList.reverse; Builtin.List.listExtendWith (.ref S) (.ref a) .none) _ _ _
  refine wpAny_bind ?_; unfold Builtin.List.listItems
  refine wpAny_bind (wpAny_seqItems e0 rfl (wpAny_pure ?_))
  show wpAny _ X.A.in1.in1 (updateSeq S (fun _ => #[]) >>= fun _ => letGo (#[] : Array Value).toList.reverse >>= fun _ => Builtin.List.listExtendWith (.ref S) (.ref a) .none) _ _ _
  refine wpAny_bind (wpAny_updateSeq e0 rfl ?_)
  have e1 := Heap.get?_update_self (Obj.mapSeq (fun _ => (#[] : Array Value))) e0 rfl
  refine wpAny_bind (wpAny_letGo ?_); unfold Builtin.List.listExtendWith
  have up : ∀ (h : Heap) (f : Obj → Obj), (∀ b o, s1.heap.get? b = some o → h.get? b = some o) → ∀ b o, s1.heap.get? b = some o → (h.update S f).get? b = some o := fun h f q b o e =>
    (Heap.get?_update_other _ _ (Ne.symm (by rw [← hS]; exact Nat.ne_of_lt (Heap.lt_size e)))).trans (q b o e)
  have k1 : ∀ b o, s1.heap.get? b = some o → (s1.heap.push { cls := .type "list", data := .seq #[] }).get? b = some o := fun b o e => Heap.get?_push_of_some _ e
  have k2 := up _ (Obj.mapSeq (fun _ => (#[] : Array Value))) k1
  have gty : ∀ {h : Heap}, (∀ b o, s1.heap.get? b = some o → h.get? b = some o) → h.IsGen a g := fun {h} q => G1.gen.keeps q
  refine wpAny_bind (wpAny_typeOf (Heap.IsGen.typeIs (s := { s1 with heap := _ }) (gty k2)) ?_)
  have h1 : Builtin.List.listSameRef (.ref S) (.ref a) = false := by
    have z : S ≠ a := Nat.ne_of_gt haS
    simp [Builtin.List.listSameRef, z]
  have h2 : (Value.type "generator" == Value.type "list") = false := by decide
  have h3 : (Value.type "generator" == Value.type "tuple") = false := by decide
  simp only [h1, h2, h3, Bool.or_false, Bool.false_eq_true, if_false]
  refine wpAny_bind (wpAny_pyIter_gen (s := { s1 with heap := _ }) (gty k2) ?_); refine wpAny_bind (wpAny_holding ?_); unfold Builtin.List.listLengthHint
  refine wpAny_bind (wpAny_specialOf (Heap.IsGen.typeIs (s := { s1 with heap := _ }) (gty k2)) F.gen_no_len ?_)
  show wpAny _ X.A.in1.in1 (specialOf (Value.ref a) (Str.ofString "__length_hint__") >>= _) _ _ _
  refine wpAny_bind (wpAny_specialOf (Heap.IsGen.typeIs (s := { s1 with heap := _ }) (gty k2)) F.gen_no_hint ?_); refine wpAny_pure ?_
  show wpAny _ X.A.in1.in1 (rule "list.extend.makes-room" >>= fun _ => Builtin.List.listTouch (.ref S) >>= fun _ => again (.builtin "list.extend.loop" ⟨[.ref S, .ref a, .none], []⟩)) _ _ _
  refine wpAny_bind (wpAny_rule ?_); refine wpAny_bind ?_
  show wpAny _ X.A.in1.in1 (updateSeq S (·.push .none) >>= fun _ => updateSeq S (·.pop)) _ _ _
  refine wpAny_bind (wpAny_updateSeq e1 rfl ?_)
  have e2 := Heap.get?_update_self (Obj.mapSeq (·.push Value.none)) e1 rfl
  refine wpAny_updateSeq (hz := by seq_fits) e2 rfl ?_
  have e3 := Heap.get?_update_self (Obj.mapSeq (·.pop)) e2 rfl
  have k4 := up _ (Obj.mapSeq (·.pop)) (up _ (Obj.mapSeq (·.push Value.none)) k2)
  refine wpAny_pure ⟨plainId_quiet F.plain_extend_loop _, ?_⟩
  obtain ⟨oa, hoa, nca, _⟩ := isGen_noCell G1.gen
  obtain ⟨o1, ho1, nc1⟩ := oL
  have fS : FpOk X pins H1 S := I1.fpOk (Nat.le_of_eq hS) (I1.hok.fresh (Nat.le_of_eq hS))
  have I2 := I1.kept (t' := s1.toks) k4
  have fpx := fpOk_two fa fL
  have nS : ∀ b ∈ a :: [L], b ≠ S := fun b hb => by
    rcases List.mem_cons.mp hb with z | z
    · exact z ▸ Nat.ne_of_lt haS
    · exact (List.mem_singleton.mp z) ▸ Nat.ne_of_lt hLS
  refine drain_w (A := X.A.in1) (L := L) (S := S) (d := d) (It := It) (n := n) (a := a) (g := g) Z hr.hd hr.depth hle hL (Nat.le_of_lt hLS) turn (fun ys W H' H2 s' acc c hyl z chg I' e' rv hn => ⟨rfl, .ref S, _, take_list I' ⟨hn, fS.2⟩ e' rv (by omega), rfl, fin ys W H' H2 S z chg hn⟩) n 0 [] [] [L] H1 _ _ _ (by omega) rfl .nil (pin_add I2 fS e3 (lst_noCell _ _)) fS ?_ dL z0 fun q => nS S q rfl
  refine ⟨G1.moved ((k4 a oa hoa).trans hoa.symm) (fun b hb => by rw [List.mem_singleton.mp hb]; exact (k4 L o1 ho1).trans ho1.symm) (Mild.refl _ _) rfl, fun b hb => ?_, dP, dw, dK, dm, db, dA, I1.ok.frames, dO, fun y c e => by rw [dL]; exact hcell y c e, fun b hb => ?_⟩
  · obtain ⟨f0, f1, f2, f3, f4, f5⟩ := fpx b hb
    refine ⟨f0, f1, f2, f3, f4, fun p hp => ?_⟩
    rcases List.mem_append.mp hp with q | q
    · exact f5 p (List.mem_append_left _ q)
    · rcases List.mem_append.mp q with q | q
      · exact f5 p (List.mem_append_right _ q)
      · rw [List.mem_singleton.mp q]
        exact Ne.symm (nS b hb)
  · rcases List.mem_cons.mp hb with z | z
    · exact ⟨oa, z ▸ k4 a oa hoa, nca⟩
    · exact ⟨o1, (List.mem_singleton.mp z) ▸ k4 L o1 ho1, nc1⟩
end GL
/-! DK0 -/
set_option Elab.async false
set_option linter.all false
set_option maxRecDepth 100000
set_option maxHeartbeats 1000000
/-! Data as trees: what a value stands for in a part of the heap that nobody changes. -/
namespace DK
open PySem PySem.Spec PyProof.Rows L2
open SlX (Slt SlO slH putS Slot1 SIsi)

inductive D where
  | unb | non | bl (b : Bool) | int (i : Int) | str (l : List Nat) | tup (ds : List D) | lst (ds : List D)
  | dset (ks : List Int) | dct (kvs : List (List Int × Int)) | obj (c : Nat) (ds : List D)
  | own (ds : List D) | ownD (kvs : List (List Int × Int)) | ownO (c : Nat) (ds : List D)

abbrev En := List D
def D.isOwn : D → Bool
  | .own _ | .ownD _ | .ownO _ _ => true
  | _ => false

mutual
inductive Rep (K : PySem.W.Frag) (ct : Nat → Addr) (F : Hp) : V → D → Prop
  | non : Rep K ct F .non .non
  | bl (b : Bool) : Rep K ct F (.bl b) (.bl b)
  | int (i : Int) : Rep K ct F (.int i) (.int i)
  | str (l : List Nat) : Rep K ct F (.str ⟨l.toArray⟩) (.str l)
  | tup {a : Addr} {xs : List V} {ds : List D} : F a = some (.tup xs) → Reps K ct F xs ds → Rep K ct F (.ref a) (.tup ds)
  | lst {a : Addr} {xs : List V} {ds : List D} : F a = some (.lst xs) → Reps K ct F xs ds → Rep K ct F (.ref a) (.lst ds)
  | dset {a : Addr} {ks : List Int} : F a = some (.dK (ks.map fun k => (Sum.inl k, .bl true))) → Rep K ct F (.ref a) (.dset ks)
  | dct {a : Addr} {kvs : List (List Int × Int)} : F a = some (.dT (kvs.map fun p => (p.1.map Sum.inl, .int p.2))) → Rep K ct F (.ref a) (.dct kvs)
  | obj {a : Addr} {c : Nat} {dx : Addr} {vs : List V} {ds : List D} : Slt F a (ct c) dx (vs.map some) → Reps K ct F vs ds → Rep K ct F (.ref a) (.obj c ds)
inductive Reps (K : PySem.W.Frag) (ct : Nat → Addr) (F : Hp) : List V → List D → Prop
  | nil : Reps K ct F [] []
  | cons {v : V} {d : D} {vs : List V} {ds : List D} : Rep K ct F v d → Reps K ct F vs ds → Reps K ct F (v :: vs) (d :: ds)
end

section
variable {K : PySem.W.Frag} {ct : Nat → Addr} {F F' H H' : Hp}
theorem same_sqT {a : Addr} {xs : List V} (e : Same H H') (h : SqT K H a xs) : SqT K H' a xs := by
  rcases h with (h | ⟨o, h⟩) | h
  · exact .inl (.inl (e _ _ h))
  · exact .inl (.inr ⟨o, e _ _ h⟩)
  · exact .inr h
theorem same_slt {a C dx : Addr} {vs : List (Option V)} (e : Same H H') (h : Slt H a C dx vs) : Slt H' a C dx vs := by
  rcases h with ⟨h, z⟩ | ⟨h, z⟩
  · exact .inl ⟨e _ _ h, z⟩
  · exact .inr ⟨e _ _ h, e _ _ z⟩
theorem same_upd {p : Addr} {o : HO} (h : H p = none) : Same H (upd H p o) := fun b x e => by
  rw [upd_ne (ne_of_none e h)]
  exact e
mutual
theorem Rep.mono (e : Same F F') : ∀ {v : V} {d : D}, Rep K ct F v d → Rep K ct F' v d
  | _, _, .non => .non
  | _, _, .bl b => .bl b
  | _, _, .int i => .int i
  | _, _, .str l => .str l
  | _, _, .tup h r => .tup (e _ _ h) (r.mono e)
  | _, _, .lst h r => .lst (e _ _ h) (r.mono e)
  | _, _, .dset h => .dset (e _ _ h)
  | _, _, .dct h => .dct (e _ _ h)
  | _, _, .obj h r => .obj (same_slt e h) (r.mono e)
theorem Reps.mono (e : Same F F') : ∀ {v : List V} {d : List D}, Reps K ct F v d → Reps K ct F' v d
  | _, _, .nil => .nil
  | _, _, .cons r t => .cons (r.mono e) (t.mono e)
end
theorem Reps.length : ∀ {v : List V} {d : List D}, Reps K ct F v d → v.length = d.length
  | _, _, .nil => rfl
  | _, _, .cons _ t => congrArg (· + 1) t.length
theorem Reps.get : ∀ {v : List V} {d : List D} {i : Nat} {x : D}, Reps K ct F v d → d[i]? = some x → ∃ y, v[i]? = some y ∧ Rep K ct F y x
  | _, _, _, _, .nil, e => by simp at e
  | _, _, 0, _, .cons r _, e => by
    simp at e
    subst e
    exact ⟨_, rfl, r⟩
  | _, _, i + 1, _, .cons _ t, e => by
    obtain ⟨y, h1, h2⟩ := t.get (by simpa using e)
    exact ⟨y, by simpa using h1, h2⟩
theorem Reps.getV : ∀ {v : List V} {d : List D} {i : Nat} {y : V}, Reps K ct F v d → v[i]? = some y → ∃ x, d[i]? = some x ∧ Rep K ct F y x
  | _, _, _, _, .nil, e => by simp at e
  | _, _, 0, _, .cons r _, e => by
    simp at e
    subst e
    exact ⟨_, rfl, r⟩
  | _, _, i + 1, _, .cons _ t, e => by
    obtain ⟨y, h1, h2⟩ := t.getV (by simpa using e)
    exact ⟨y, by simpa using h1, h2⟩
theorem Reps.append : ∀ {v w : List V} {d e : List D}, Reps K ct F v d → Reps K ct F w e → Reps K ct F (v ++ w) (d ++ e)
  | _, _, _, _, .nil, s => s
  | _, _, _, _, .cons r t, s => .cons r (t.append s)
theorem Reps.set : ∀ {v : List V} {d : List D} {y : V} {x : D} (i : Nat), Reps K ct F v d → Rep K ct F y x → Reps K ct F (v.set i y) (d.set i x)
  | _, _, _, _, _, .nil, _ => .nil
  | _, _, _, _, 0, .cons _ t, r => .cons r t
  | _, _, _, _, i + 1, .cons q t, r => .cons q (t.set i r)
theorem Reps.take : ∀ {v : List V} {d : List D} (n : Nat), Reps K ct F v d → Reps K ct F (v.take n) (d.take n)
  | _, _, 0, _ => .nil
  | _, _, _ + 1, .nil => .nil
  | _, _, n + 1, .cons r t => .cons r (t.take n)
theorem Reps.drop : ∀ {v : List V} {d : List D} (n : Nat), Reps K ct F v d → Reps K ct F (v.drop n) (d.drop n)
  | _, _, 0, r => r
  | _, _, _ + 1, .nil => .nil
  | _, _, n + 1, .cons _ t => t.drop n
theorem Reps.rev : ∀ {v : List V} {d : List D}, Reps K ct F v d → Reps K ct F v.reverse d.reverse
  | _, _, .nil => .nil
  | _, _, .cons r t => by
    rw [List.reverse_cons, List.reverse_cons]
    exact t.rev.append (.cons r .nil)

/-- what nobody changes has grown, and nothing that stood is lost -/
structure Grow (F H F' H' : Hp) : Prop where
  f : Same F F'
  h : Same H H'
  s : Same F' H'
  n : ∀ a o, H a = some o → (∀ xs, o ≠ .tup xs) → F a = none → F' a = none
theorem Grow.refl (s : Same F H) : Grow F H F H := ⟨.refl _, .refl _, s, fun _ _ _ _ q => q⟩
theorem Grow.trans {F1 H1 : Hp} (a : Grow F H F1 H1) (b : Grow F1 H1 F' H') : Grow F H F' H' :=
  ⟨a.f.trans b.f, a.h.trans b.h, b.s, fun c o h t q => b.n c o (a.h c o h) t (a.n c o h t q)⟩
/-- a new object that nobody changes -/
theorem Grow.new {p : Addr} {o : HO} (s : Same F H) (h : H p = none) : Grow F H (upd F p o) (upd H p o) where
  f := same_upd (s.free h)
  h := same_upd h
  s := fun b x e => by
    by_cases hb : b = p
    · subst hb
      rw [upd_same] at e ⊢
      exact e
    · rw [upd_ne hb] at e ⊢
      exact s _ _ e
  n := fun a x e _ q => by
    rw [upd_ne (ne_of_none e h)]
    exact q
/-- a new object that is kept apart -/
theorem Grow.apart {p : Addr} {o : HO} (s : Same F H) (h : H p = none) : Grow F H F (upd H p o) where
  f := .refl _
  h := same_upd h
  s := s.trans (same_upd h)
  n := fun _ _ _ _ q => q

structure Zc where
  ct : Nat → Addr
  F0 : Hp
  H0 : Hp
  me : Addr

def EntV (K : PySem.W.Frag) (z : Zc) (F H : Hp) (v : V) : D → Prop
  | .unb => True
  | .own ds => ∃ l xs, v = .ref l ∧ H l = some (.lst xs) ∧ F l = none ∧ z.H0 l = none ∧ Reps K z.ct F xs ds
  | .ownD kvs => ∃ l, v = .ref l ∧ H l = some (.dT (kvs.map fun p => (p.1.map Sum.inl, .int p.2))) ∧ F l = none ∧ z.H0 l = none
  | .ownO c ds => ∃ a dx vs, v = .ref a ∧ (dx ≠ a ∧ a = z.me) ∧ Slt H a (z.ct c) dx vs ∧ (∃ o, H dx = some o ∧ (o = .own a ∨ o = .xd [])) ∧ F a = none ∧ F dx = none ∧ z.H0 a = none ∧ z.H0 dx = none ∧ vs.length = ds.length ∧
      (∀ (i : Nat) (d : D), ds[i]? = some d → d = .unb ∨ ∃ x, vs[i]? = some (some x) ∧ Rep K z.ct F x d)
  | d => Rep K z.ct F v d

structure ER (K : PySem.W.Frag) (z : Zc) (F H : Hp) (σ : L2.St) (env : En) : Prop where
  len : σ.length = env.length
  gr : Grow z.F0 z.H0 F H
  ent : ∀ (i : Nat) (d : D), env[i]? = some d → d ≠ .unb → ∃ v, σ[i]? = some (some v) ∧ EntV K z F H v d
  dis : ∀ (i j : Nat) (d e : D) (l : Addr), i ≠ j → env[i]? = some d → env[j]? = some e → d.isOwn = true → e.isOwn = true → σ[i]? = some (some (.ref l)) → σ[j]? = some (some (.ref l)) → False

variable {z : Zc} {σ : L2.St} {env : En}
theorem EntV.of {v : V} {d : D} (r : Rep K z.ct F v d) : EntV K z F H v d := by
  cases d <;> first | exact r | exact trivial | (cases r; done)
theorem EntV.rep {v : V} {d : D} (r : EntV K z F H v d) (h : d.isOwn = false) (hu : d ≠ .unb) : Rep K z.ct F v d := by
  cases d <;> first | exact r | exact absurd rfl hu | (cases h; done)
theorem EntV.grow {v : V} {d : D} (g : Grow F H F' H') (r : EntV K z F H v d) : EntV K z F' H' v d := by
  cases d with
  | unb => exact trivial
  | own ds =>
    obtain ⟨l, xs, e, h1, h2, h3, h4⟩ := r
    exact ⟨l, xs, e, g.h _ _ h1, g.n _ _ h1 (fun _ z => by cases z) h2, h3, h4.mono g.f⟩
  | ownD kvs =>
    obtain ⟨l, e, h1, h2, h3⟩ := r
    exact ⟨l, e, g.h _ _ h1, g.n _ _ h1 (fun _ z => by cases z) h2, h3⟩
  | ownO c ds =>
    obtain ⟨a, dx, vs, e, ne, h1, ⟨o, h2, ho⟩, h3, h4, h5, h6, h7, h8⟩ := r
    refine ⟨a, dx, vs, e, ne, same_slt g.h h1, ⟨o, g.h _ _ h2, ho⟩, ?_, g.n _ _ h2 (fun _ z => by rcases ho with q | q <;> (rw [q] at z; cases z)) h4, h5, h6, h7, fun i d hd => (h8 i d hd).imp id fun ⟨x, q1, q2⟩ => ⟨x, q1, q2.mono g.f⟩⟩
    rcases h1 with ⟨q, _⟩ | ⟨q, _⟩
    · exact g.n _ _ q (fun _ z => by cases z) h3
    · exact g.n _ _ q (fun _ z => by unfold SlO at z; cases z) h3
  | _ => exact Rep.mono g.f r
theorem ER.sub (E : ER K z F H σ env) : Same F H := E.gr.s
theorem ER.grow (E : ER K z F H σ env) (g : Grow F H F' H') : ER K z F' H' σ env :=
  ⟨E.len, E.gr.trans g, fun i d hd hu => let ⟨v, h1, h2⟩ := E.ent i d hd hu; ⟨v, h1, h2.grow g⟩, E.dis⟩
theorem ER.set (E : ER K z F H σ env) (i : Nat) {v : V} {d : D} (r : Rep K z.ct F v d) : ER K z F H (σ.set i (some v)) (env.set i d) := by
  have no : d.isOwn = false := by cases r <;> rfl
  refine ⟨by rw [List.length_set, List.length_set, E.len], E.gr, fun j e he hu => ?_, fun a b e f l hab h1 h2 h3 h4 h5 h6 => ?_⟩
  · by_cases hj : i = j
    · subst hj
      have hlt : i < env.length := by
        have q := (List.getElem?_eq_some_iff.mp he).1
        rwa [List.length_set] at q
      rw [List.getElem?_set_self hlt] at he
      obtain rfl := Option.some.inj he
      exact ⟨v, List.getElem?_set_self (E.len ▸ hlt), .of r⟩
    · rw [List.getElem?_set_ne hj] at he
      rw [List.getElem?_set_ne hj]
      exact E.ent j e he hu
  · have ne : ∀ {c : Nat} {e : D}, (env.set i d)[c]? = some e → e.isOwn = true → i ≠ c := fun {c e} h1 h3 hc => by
      subst hc
      have hlt : i < env.length := by
        have q := (List.getElem?_eq_some_iff.mp h1).1
        rwa [List.length_set] at q
      rw [List.getElem?_set_self hlt] at h1
      obtain rfl := Option.some.inj h1
      rw [no] at h3
      cases h3
    have na := ne h1 h3
    have nb := ne h2 h4
    rw [List.getElem?_set_ne na] at h1 h5
    rw [List.getElem?_set_ne nb] at h2 h6
    exact E.dis a b e f l hab h1 h2 h3 h4 h5 h6
/-- an own object's address -/
theorem EntV.addr {v : V} {d : D} (r : EntV K z F H v d) (h : d.isOwn = true) : ∃ l o, v = .ref l ∧ H l = some o ∧ F l = none ∧ z.H0 l = none := by
  cases d <;> first | (cases h; done) | skip
  · obtain ⟨l, xs, e, h1, h2, h3, h4⟩ := r
    exact ⟨l, _, e, h1, h2, h3⟩
  · obtain ⟨l, e, h1, h2, h3⟩ := r
    exact ⟨l, _, e, h1, h2, h3⟩
  · obtain ⟨a, dx, vs, e, ne, h1, ⟨o, h2, ho⟩, h3, h4, h5, h6, h7, h8⟩ := r
    rcases h1 with ⟨q, _⟩ | ⟨q, _⟩
    · exact ⟨a, _, e, q, h3, h5⟩
    · exact ⟨a, _, e, q, h3, h5⟩
/-- a slot takes an own object that no other slot holds -/
theorem ER.setOwn (E : ER K z F H σ env) (i : Nat) {l : Addr} {d : D} (r : EntV K z F H (.ref l) d) (hn : ∀ (j : Nat) (e : D), j ≠ i → env[j]? = some e → e.isOwn = true → σ[j]? ≠ some (some (.ref l))) : ER K z F H (σ.set i (some (.ref l))) (env.set i d) := by
  refine ⟨by rw [List.length_set, List.length_set, E.len], E.gr, fun j e he hu => ?_, fun a b e f m hab h1 h2 h3 h4 h5 h6 => ?_⟩
  · by_cases hj : i = j
    · subst hj
      have hlt : i < env.length := by
        have q := (List.getElem?_eq_some_iff.mp he).1
        rwa [List.length_set] at q
      rw [List.getElem?_set_self hlt] at he
      obtain rfl := Option.some.inj he
      exact ⟨_, List.getElem?_set_self (E.len ▸ hlt), r⟩
    · rw [List.getElem?_set_ne hj] at he
      rw [List.getElem?_set_ne hj]
      exact E.ent j e he hu
  · have at_ : ∀ {c : Nat} {e : D}, (env.set i d)[c]? = some e → (σ.set i (some (.ref l)))[c]? = some (some (.ref m)) → (i = c ∧ m = l) ∨ (i ≠ c ∧ env[c]? = some e ∧ σ[c]? = some (some (.ref m))) := fun {c e} h1 h5 => by
      by_cases hc : i = c
      · subst hc
        have hlt : i < σ.length := by
          have q := (List.getElem?_eq_some_iff.mp h5).1
          rwa [List.length_set] at q
        rw [List.getElem?_set_self hlt] at h5
        injection h5 with h5
        injection h5 with h5
        injection h5 with h5
        exact .inl ⟨rfl, h5.symm⟩
      · rw [List.getElem?_set_ne hc] at h1 h5
        exact .inr ⟨hc, h1, h5⟩
    rcases at_ h1 h5 with ⟨q1, q2⟩ | ⟨q1, q2, q3⟩
    · rcases at_ h2 h6 with ⟨w1, w2⟩ | ⟨w1, w2, w3⟩
      · exact hab (q1.symm.trans w1)
      · exact hn b f (Ne.symm w1) w2 h4 (by rw [w3, q2])
    · rcases at_ h2 h6 with ⟨w1, w2⟩ | ⟨w1, w2, w3⟩
      · exact hn a e (Ne.symm q1) q2 h3 (by rw [q3, w2])
      · exact E.dis a b e f m hab q2 w2 h3 h4 q3 w3
/-- a new object: no slot holds it -/
theorem ER.fresh (E : ER K z F H σ env) {l : Addr} (h : H l = none) : ∀ (j : Nat) (e : D), env[j]? = some e → e.isOwn = true → σ[j]? ≠ some (some (.ref l)) := fun j e he ho hs => by
  obtain ⟨v, h1, h2⟩ := E.ent j e he (fun q => by subst q; cases ho)
  obtain ⟨m, o, rfl, h3, _⟩ := h2.addr ho
  rw [h1] at hs
  injection hs with hs
  injection hs with hs
  injection hs with hs
  subst hs
  rw [h] at h3
  cases h3
end
end DK
/-! DK1 -/
set_option Elab.async false
set_option linter.all false
set_option maxRecDepth 100000
set_option maxHeartbeats 1000000
namespace DK
noncomputable section
open PySem PySem.Spec PyProof.Rows L2
open SlX (Slt SlO slH putS Slot1 SIsi)

/-! ### quicker for the kernel: recursors written out -/
def gqR (env : En) : Nat → Option D := @List.rec D (fun _ => Nat → Option D) (fun _ => none) (fun x _ ih n => @Nat.rec (fun _ => Option D) (some x) (fun m _ => ih m) n) env
theorem gqR_eq : ∀ (env : En) (i : Nat), gqR env i = env[i]?
  | [], _ => rfl
  | _ :: _, 0 => rfl
  | _ :: r, i + 1 => (gqR_eq r i).trans (by simp)
def stR (d : D) (env : En) : Nat → En := @List.rec D (fun _ => Nat → En) (fun _ => []) (fun x r ih n => @Nat.rec (fun _ => En) (d :: r) (fun m _ => x :: ih m) n) env
theorem stR_eq (d : D) : ∀ (env : En) (i : Nat), stR d env i = env.set i d
  | [], _ => rfl
  | _ :: _, 0 => rfl
  | x :: r, i + 1 => congrArg (x :: ·) (stR_eq d r i)
def apR {α : Type} (l m : List α) : List α := @List.rec α (fun _ => List α) m (fun x _ ih => x :: ih) l
theorem apR_eq {α : Type} : ∀ (l m : List α), apR l m = l ++ m
  | [], _ => rfl
  | x :: r, m => congrArg (x :: ·) (apR_eq r m)
def smR {α : Type} (l : List α) : Nat → Bool := @List.rec α (fun _ => Nat → Bool) (fun _ => true) (fun _ _ ih n => @Nat.rec (fun _ => Bool) false (fun m _ => ih m) n) l
theorem smR_le {α : Type} : ∀ (l : List α) (n : Nat), smR l n = true → l.length ≤ n
  | [], _, _ => Nat.zero_le _
  | _ :: _, 0, h => by cases h
  | _ :: r, n + 1, h => Nat.succ_le_succ (smR_le r n h)
def mpR {α β : Type} (f : α → β) (l : List α) : List β := @List.rec α (fun _ => List β) [] (fun x _ ih => f x :: ih) l
theorem mpR_eq {α β : Type} (f : α → β) : ∀ l : List α, mpR f l = l.map f
  | [] => rfl
  | x :: r => congrArg (f x :: ·) (mpR_eq f r)
def iteR {α : Type} (b : Bool) (x y : α) : α := @Bool.rec (fun _ => α) y x b
/-! ### readings by trees -/
section
variable (K : PySem.W.Frag) (z : Zc)
def tD (f : En → Option D) : TE := fun σ H Q => ∃ F env, ER K z F H σ env ∧ ∃ d, f env = some d ∧ ∀ F' H' v, Grow F H F' H' → Rep K z.ct F' v d → Q v H'
/-- a new list that is still free to be owned -/
def tF (f : En → Option (List D)) : TE := fun σ H Q => ∃ F env, ER K z F H σ env ∧ ∃ ds, f env = some ds ∧ ∀ F' H' p xs, Grow F H F' H' → H p = none → H' p = some (.lst xs) → F' p = none → Reps K z.ct F' xs ds → Q (.ref p) H'
def tQ (f : En → Option Bool) : TT := fun σ H Q => ∃ F env, ER K z F H σ env ∧ ∃ b, f env = some b ∧ ∀ F' H', Grow F H F' H' → Q b H'
def tL (f : En → Option (List D)) : TA := fun σ H Q => ∃ F env, ER K z F H σ env ∧ ∃ ds, f env = some ds ∧ ∀ F' H' vs, Grow F H F' H' → Reps K z.ct F' vs ds → Q vs H'
end
theorem pe_imp {X : Cx} {e : Expr} {t t' : TE} (h : PE X e t) (w : ∀ σ H Q, t' σ H Q → t σ H Q) : PE X e t' := ⟨fun pins s σ H Q I q => h.run pins s σ H Q I (w _ _ _ q)⟩
theorem pt_imp {X : Cx} {e : Expr} {t t' : TT} (h : PT X e t) (w : ∀ σ H Q, t' σ H Q → t σ H Q) : PT X e t' := ⟨fun pins s σ H Q I q => h.run pins s σ H Q I (w _ _ _ q)⟩
theorem pw_imp {X : Cx} {e : Expr} {t t' : TT} (h : PW X e t) (w : ∀ σ H Q, t' σ H Q → t σ H Q) : PW X e t' := ⟨fun wh pins s σ H Q I q => h.run wh pins s σ H Q I (w _ _ _ q)⟩
theorem pa_imp {X : Cx} {e : List Expr} {t t' : TA} (h : PA X e t) (w : ∀ σ H Q, t' σ H Q → t σ H Q) : PA X e t' := ⟨fun pos pins s σ H Q I q => h.run pos pins s σ H Q I (w _ _ _ q)⟩
theorem ps_imp {X : Cx} {e : Stmt} {t t' : TS} (h : PS X e t) (w : ∀ D σ H, t' D σ H → t D σ H) : PS X e t' := ⟨fun pins s σ H D I q => h.run pins s σ H D I (w _ _ _ q)⟩
theorem pss_imp {X : Cx} {e : List Stmt} {t t' : TS} (h : PSs X e t) (w : ∀ D σ H, t' D σ H → t D σ H) : PSs X e t' := ⟨fun pins s σ H D I q => h.run pins s σ H D I (w _ _ _ q)⟩

/-! ### the trees' own sums -/
def bnd {α β : Type} (x : Option α) (k : α → Option β) : Option β := match x with | some a => k a | none => none
theorem bnd_some {α β : Type} {x : Option α} {k : α → Option β} {b : β} (h : bnd x k = some b) : ∃ a, x = some a ∧ k a = some b := by
  cases x with
  | none => cases h
  | some a => exact ⟨a, rfl, h⟩
def pl : D → Option D
  | .unb => none | .own _ => none | .ownD _ => none | .ownO _ _ => none
  | d => some d
theorem pl_some {d e : D} (h : pl d = some e) : d = e ∧ d.isOwn = false ∧ d ≠ .unb := by
  cases d <;> first | (cases h; done) | (obtain rfl := Option.some.inj h; exact ⟨rfl, rfl, fun q => by cases q⟩)
def vget (i : Nat) (env : En) : Option D := bnd (gqR env i) pl
def b2 (o : D → D → Option D) (f g : En → Option D) (env : En) : Option D := bnd (f env) fun a => bnd (g env) fun b => o a b
def u1 (o : D → Option D) (f : En → Option D) (env : En) : Option D := bnd (f env) o
def cst (d : D) (_ : En) : Option D := some d
def asB : D → Option Bool
  | .bl b => some b
  | _ => none
def tst (f : En → Option D) (env : En) : Option Bool := bnd (f env) asB
def qAnd (f g : En → Option Bool) (env : En) : Option Bool := bnd (f env) fun b => iteR b (g env) (some false)
def qOr (f g : En → Option Bool) (env : En) : Option Bool := bnd (f env) fun b => iteR b (some true) (g env)
def qNot (f : En → Option Bool) (env : En) : Option Bool := bnd (f env) fun b => some (!b)
def eAnd (f g : En → Option D) (env : En) : Option D := bnd (tst f env) fun b => iteR b (g env) (some (.bl false))
def eOr (f g : En → Option D) (env : En) : Option D := bnd (tst f env) fun b => iteR b (some (.bl true)) (g env)
def eNot (f : En → Option D) (env : En) : Option D := bnd (tst f env) fun b => some (.bl (!b))
def eIf (c : En → Option Bool) (f g : En → Option D) (env : En) : Option D := bnd (c env) fun b => iteR b (f env) (g env)
def aNil (_ : En) : Option (List D) := some []
def aCons (f : En → Option D) (g : En → Option (List D)) (env : En) : Option (List D) := bnd (f env) fun a => bnd (g env) fun r => some (a :: r)
def asTup (g : En → Option (List D)) (env : En) : Option D := bnd (g env) fun ds => some (.tup ds)
def asLst (g : En → Option (List D)) (env : En) : Option D := bnd (g env) fun ds => some (.lst ds)
def small (ds : List D) : Option (List D) := if smR ds 100000 then some ds else none
def sml (g : En → Option (List D)) (env : En) : Option (List D) := bnd (g env) small
theorem small_some {ds es : List D} (h : small ds = some es) : es = ds ∧ ds.length < sizeLine := by
  unfold small at h
  split at h
  · next q => exact ⟨(Option.some.inj h).symm, Nat.lt_of_le_of_lt (smR_le _ _ q) (by decide)⟩
  · cases h

section
variable {X : Cx} {z : Zc} {f g : En → Option D} {e a b : Expr} {pos : Pos}
theorem rep_int {K : PySem.W.Frag} {ct : Nat → Addr} {F : Hp} {v : V} {i : Int} (h : Rep K ct F v (.int i)) : v = .int i := by
  cases h
  rfl
theorem rep_bl {K : PySem.W.Frag} {ct : Nat → Addr} {F : Hp} {v : V} {i : Bool} (h : Rep K ct F v (.bl i)) : v = .bl i := by
  cases h
  rfl
theorem rep_str {K : PySem.W.Frag} {ct : Nat → Addr} {F : Hp} {v : V} {i : List Nat} (h : Rep K ct F v (.str i)) : v = .str ⟨i.toArray⟩ := by
  cases h
  rfl
/-! ### names, constants -/
theorem d_var (i : Nat) {x : Str} {pos : Pos} (h : PE X (.Name x pos) (tVar i)) : PE X (.Name x pos) (tD X.K z (vget i)) := pe_imp h fun σ H Q ⟨F, env, E, d, hd, q⟩ => by
  obtain ⟨c, h1, h2⟩ := bnd_some hd
  obtain ⟨rfl, h3, h4⟩ := pl_some h2
  obtain ⟨v, h5, h6⟩ := E.ent i c ((gqR_eq env i).symm.trans h1) h4
  exact ⟨v, h5, q F H v (.refl E.sub) (h6.rep h3 h4)⟩
theorem d_cst {d : D} {v : V} (h : PE X e (tC v)) (r : ∀ F, Rep X.K z.ct F v d) : PE X e (tD X.K z (cst d)) := pe_imp h fun σ H Q ⟨F, env, E, d', hd, q⟩ => by
  obtain rfl := Option.some.inj hd
  exact q F H v (.refl E.sub) (r F)
theorem d_int {i : Int} {j pos} : PE X (.Constant (.int i) j pos) (tD X.K z (cst (.int i))) := d_cst pe_int fun _ => .int i
theorem d_bl {i : Bool} {j pos} : PE X (.Constant (.bool i) j pos) (tD X.K z (cst (.bl i))) := d_cst pe_bl fun _ => .bl i
theorem d_str {x : Str} (l : List Nat) (h : x = ⟨l.toArray⟩) {j pos} : PE X (.Constant (.str x) j pos) (tD X.K z (cst (.str l))) := d_cst pe_str fun _ => by
  rw [h]
  exact .str l
theorem d_globI {x : Str} {i : Int} {t : Tok} {pos : Pos} (hm : X.mg x = some (.int i t)) (hg : Gl X x := by rfl) (hd : (x == ("__debug__" : Str)) = false := by decide) : PE X (.Name x pos) (tD X.K z (cst (.int i))) := d_cst (pe_glob (v := .int i) hg hm ⟨_, rfl⟩ hd) fun _ => .int i
theorem d_globS {x y : Str} {t : Tok} (l : List Nat) {pos : Pos} (hm : X.mg x = some (.str y t)) (h : y = ⟨l.toArray⟩ := by rfl) (hg : Gl X x := by rfl) (hd : (x == ("__debug__" : Str)) = false := by decide) : PE X (.Name x pos) (tD X.K z (cst (.str l))) := by
  subst h
  exact d_cst (pe_glob (v := .str ⟨l.toArray⟩) hg hm ⟨_, rfl⟩ hd) fun _ => .str l
/-! ### operators -/
def OpD (K : PySem.W.Frag) (z : Zc) (r : R2) (o : D → D → Option D) : Prop := ∀ (F H : Hp) (x y : V) (a b d : D) (Q : VK), Same F H → o a b = some d → Rep K z.ct F x a → Rep K z.ct F y b →
  (∀ F' H' v, Grow F H F' H' → Rep K z.ct F' v d → Q v H') → r x y H Q
theorem two {o : D → D → Option D} {r : R2} {K : PySem.W.Frag} (hr : OpD K z r o) : ∀ σ H Q, tD K z (b2 o f g) σ H Q → tOp r (tD K z f) (tD K z g) σ H Q := fun σ H Q ⟨F, env, E, d, hd, q⟩ => by
  obtain ⟨p, h1, hd⟩ := bnd_some hd
  obtain ⟨p2, h2, hd⟩ := bnd_some hd
  refine ⟨F, env, E, p, h1, fun F1 H1 x g1 r1 => ⟨F1, env, E.grow g1, p2, h2, fun F2 H2 y g2 r2 => ?_⟩⟩
  exact hr F2 H2 x y p p2 d Q g2.s hd (r1.mono g2.f) r2 fun F3 H3 v g3 r3 => q F3 H3 v ((g1.trans g2).trans g3) r3
theorem d_op {op : Operator} {r : R2} {o : D → D → Option D} (ho : OpR X (binaryOp op) r) (hr : OpD X.K z r o) (ha : PE X a (tD X.K z f)) (hb : PE X b (tD X.K z g)) : PE X (.BinOp a op b pos) (tD X.K z (b2 o f g)) := pe_imp (pe_op ho ha hb) (two hr)
theorem d_cmp {op : CmpOp} {r : R2} {o : D → D → Option D} (ho : OpR X (compareOp op) r) (hr : OpD X.K z r o) (ha : PE X a (tD X.K z f)) (hb : PE X b (tD X.K z g)) (hm : behindInMarks op b = false) : PE X (.Compare a [op] [b] pos) (tD X.K z (b2 o f g)) := pe_imp (pe_cmpR ho ha hb hm) (two hr)
theorem OpR.or {f : Value → Value → Sem Value} {r r' : R2} (h : OpR X f r) (h' : OpR X f r') : OpR X f fun x y H Q => r x y H Q ∨ r' x y H Q := fun pins s σ H x y v u Q I rx ry q => q.elim (h pins s σ H x y v u Q I rx ry) (h' pins s σ H x y v u Q I rx ry)
def addD : D → D → Option D
  | .int i, .int j => some (.int (i + j))
  | .str l, .str m => if l.length + m.length ≤ 1000 then some (.str (l ++ m)) else none
  | _, _ => none
def subD : D → D → Option D
  | .int i, .int j => some (.int (i - j))
  | _, _ => none
def inI (n : Nat) (i : Int) : Bool := match i with
  | .ofNat m => decide (m < n)
  | .negSucc m => decide (m < n)
def inI63 : Int → Bool
  | .ofNat m => Nat.blt m 9223372036854775808
  | .negSucc m => Nat.blt m 9223372036854775808
theorem inI63_eq {i : Int} (h : inI63 i = true) : inI (2 ^ 63) i = true := by
  cases i with
  | ofNat m => exact decide_eq_true (Nat.le_of_ble_eq_true h)
  | negSucc m => exact decide_eq_true (Nat.le_of_ble_eq_true h)
def mulD : D → D → Option D
  | .int i, .int j => iteR (inI63 i) (some (.int (i * j))) none
  | _, _ => none
def divD : D → D → Option D
  | .int i, .int (.ofNat j) => if 0 < j ∧ j < 1073741824 then some (.int (i / (j : Int))) else none
  | _, _ => none
def modD : D → D → Option D
  | .int i, .int (.ofNat j) => if 0 < j then some (.int (i % (j : Int))) else none
  | _, _ => none
def negD : D → Option D
  | .int i => some (.int (-i))
  | _ => none
theorem inI_lt {n : Nat} {i : Int} (h : inI n i = true) : -((n : Int) + 1) < i ∧ i < n := by
  unfold inI at h
  cases i with
  | ofNat m =>
    have q := of_decide_eq_true h
    exact ⟨by simp <;> omega, by simp <;> omega⟩
  | negSucc m =>
    have q := of_decide_eq_true h
    exact ⟨by omega, by omega⟩
theorem op_addD : OpD X.K z (fun x y H Q => rI0 (fun i j => .int (i + j)) x y H Q ∨ ∃ i j, x = .str i ∧ y = .str j ∧ i.length + j.length ≤ sizeLine ∧ Q (.str (i ++ j)) H) addD := fun F H x y p q d Q s hd r1 r2 k => by
  cases p <;> cases q <;> first | (cases hd; done) | skip
  · obtain rfl := Option.some.inj hd
    exact .inl ⟨_, _, rep_int r1, rep_int r2, k F H _ (.refl s) (.int _)⟩
  · rename_i l m
    have hd : (if l.length + m.length ≤ 1000 then some (D.str (l ++ m)) else none) = some d := hd
    split at hd
    · next hl =>
      obtain rfl := Option.some.inj hd
      refine .inr ⟨_, _, rep_str r1, rep_str r2, ?_, k F H _ (.refl s) ?_⟩
      · show l.toArray.size + m.toArray.size ≤ sizeLine
        rw [List.size_toArray, List.size_toArray]
        exact Nat.le_trans hl (by decide)
      · show Rep _ _ _ (.str ⟨l.toArray ++ m.toArray⟩) _
        rw [List.append_toArray]
        exact .str _
    · cases hd
theorem d_add (ha : PE X a (tD X.K z f)) (hb : PE X b (tD X.K z g)) : PE X (.BinOp a .Add b pos) (tD X.K z (b2 addD f g)) := d_op (op_add.or op_add_str) op_addD ha hb
theorem d_sub (ha : PE X a (tD X.K z f)) (hb : PE X b (tD X.K z g)) : PE X (.BinOp a .Sub b pos) (tD X.K z (b2 subD f g)) := d_op op_sub (fun F H x y p q d Q s hd r1 r2 k => by
  cases p <;> cases q <;> first | (cases hd; done) | skip
  obtain rfl := Option.some.inj hd
  exact ⟨_, _, rep_int r1, rep_int r2, k F H _ (.refl s) (.int _)⟩) ha hb
theorem d_mul (ha : PE X a (tD X.K z f)) (hb : PE X b (tD X.K z g)) : PE X (.BinOp a .Mult b pos) (tD X.K z (b2 mulD f g)) := d_op op_mul (fun F H x y p q d Q s hd r1 r2 k => by
  cases p <;> cases q <;> first | (cases hd; done) | skip
  rename_i i j
  have hd : iteR (inI63 i) (some (D.int (i * j))) none = some d := hd
  cases hl : inI63 i with
  | true =>
    rw [hl] at hd
    obtain rfl := Option.some.inj (show some (D.int (i * j)) = some d from hd)
    have w := inI_lt (inI63_eq hl)
    refine ⟨_, _, rep_int r1, rep_int r2, .inl ⟨?_, ?_⟩, k F H _ (.refl s) (.int _)⟩
    · have := w.1
      omega
    · have := w.2
      omega
  | false =>
    rw [hl] at hd
    cases hd) ha hb
theorem d_div (ha : PE X a (tD X.K z f)) (hb : PE X b (tD X.K z g)) : PE X (.BinOp a .FloorDiv b pos) (tD X.K z (b2 divD f g)) := d_op op_fdiv (fun F H x y p q d Q s hd r1 r2 k => by
  cases p <;> cases q <;> first | (cases hd; done) | skip
  rename_i i j
  cases j with
  | negSucc j => cases hd
  | ofNat j =>
    have hd : (if 0 < j ∧ j < 1073741824 then some (D.int (i / (j : Int))) else none) = some d := hd
    split at hd
    · next hl =>
      obtain rfl := Option.some.inj hd
      exact ⟨_, _, rep_int r1, rep_int r2, ⟨by simp <;> omega, by simp <;> omega⟩, k F H _ (.refl s) (.int _)⟩
    · cases hd) ha hb
theorem d_mod (ha : PE X a (tD X.K z f)) (hb : PE X b (tD X.K z g)) : PE X (.BinOp a .Mod b pos) (tD X.K z (b2 modD f g)) := d_op op_mod (fun F H x y p q d Q s hd r1 r2 k => by
  cases p <;> cases q <;> first | (cases hd; done) | skip
  rename_i i j
  cases j with
  | negSucc j => cases hd
  | ofNat j =>
    have hd : (if 0 < j then some (D.int (i % (j : Int))) else none) = some d := hd
    split at hd
    · next hl =>
      obtain rfl := Option.some.inj hd
      exact ⟨_, _, rep_int r1, rep_int r2, by simp <;> omega, k F H _ (.refl s) (.int _)⟩
    · cases hd) ha hb
theorem d_neg (ha : PE X a (tD X.K z f)) : PE X (.UnaryOp .USub a pos) (tD X.K z (u1 negD f)) := pe_imp (pe_un un_neg ha) fun σ H Q ⟨F, env, E, d, hd, q⟩ => by
  obtain ⟨p, h1, hd⟩ := bnd_some hd
  refine ⟨F, env, E, p, h1, fun F1 H1 x g1 r1 => ?_⟩
  cases p <;> first | (cases hd; done) | skip
  obtain rfl := Option.some.inj hd
  exact ⟨_, rep_int r1, q F1 H1 _ g1 (.int _)⟩
/-! ### order -/
def ltD : D → D → Option D
  | .int i, .int j => some (.bl (decide (i < j)))
  | _, _ => none
def leD : D → D → Option D
  | .int i, .int j => some (.bl (decide (i ≤ j)))
  | _, _ => none
def gtD : D → D → Option D
  | .int i, .int j => some (.bl (decide (i > j)))
  | _, _ => none
def geD : D → D → Option D
  | .int i, .int j => some (.bl (decide (i ≥ j)))
  | _, _ => none
theorem op_ltD : OpD X.K z (rI0 fun i j => .bl (decide (i < j))) ltD := fun F H x y p q d Q s hd r1 r2 k => by
  cases p <;> cases q <;> first | (cases hd; done) | skip
  obtain rfl := Option.some.inj hd
  exact ⟨_, _, rep_int r1, rep_int r2, k F H _ (.refl s) (.bl _)⟩
theorem op_leD : OpD X.K z (rI0 fun i j => .bl (decide (i ≤ j))) leD := fun F H x y p q d Q s hd r1 r2 k => by
  cases p <;> cases q <;> first | (cases hd; done) | skip
  obtain rfl := Option.some.inj hd
  exact ⟨_, _, rep_int r1, rep_int r2, k F H _ (.refl s) (.bl _)⟩
theorem op_gtD : OpD X.K z (rI0 fun i j => .bl (decide (i > j))) gtD := fun F H x y p q d Q s hd r1 r2 k => by
  cases p <;> cases q <;> first | (cases hd; done) | skip
  obtain rfl := Option.some.inj hd
  exact ⟨_, _, rep_int r1, rep_int r2, k F H _ (.refl s) (.bl _)⟩
theorem op_geD : OpD X.K z (rI0 fun i j => .bl (decide (i ≥ j))) geD := fun F H x y p q d Q s hd r1 r2 k => by
  cases p <;> cases q <;> first | (cases hd; done) | skip
  obtain rfl := Option.some.inj hd
  exact ⟨_, _, rep_int r1, rep_int r2, k F H _ (.refl s) (.bl _)⟩
end
end
end DK
/-! DK2 -/
set_option Elab.async false
set_option linter.all false
set_option maxRecDepth 100000
set_option maxHeartbeats 1000000
namespace DK
noncomputable section
open PySem PySem.Spec PyProof.Rows L2
open SlX (Slt SlO slH putS Slot1 SIsi)

/-! ### == of data -/
mutual
def toPy : D → PyData
  | .bl b => .bool b
  | .int i => .int i
  | .str l => .str ⟨l.toArray⟩
  | .tup ds => .tuple (toPys ds)
  | .lst ds => .list (toPys ds)
  | _ => .none
def toPys : List D → List PyData
  | [] => []
  | d :: ds => toPy d :: toPys ds
end
mutual
/-- data of at most so many layers -/
def dOk : Nat → D → Bool
  | _, .non => true
  | _, .bl _ => true
  | _, .int _ => true
  | _, .str l => l.all fun c => decide (c < 1000)
  | n + 1, .tup ds => dOks n ds
  | n + 1, .lst ds => dOks n ds
  | _, _ => false
def dOks : Nat → List D → Bool
  | _, [] => true
  | n, d :: ds => dOk n d && dOks n ds
end
mutual
def eqB : D → D → Bool
  | .non, .non => true
  | .bl a, .bl b => a == b
  | .bl a, .int j => (if a then 1 else 0) == j
  | .int i, .bl b => i == (if b then 1 else 0)
  | .int i, .int j => i == j
  | .str x, .str y => x == y
  | .lst xs, .lst ys => eqBs xs ys
  | .tup xs, .tup ys => eqBs xs ys
  | _, _ => false
def eqBs : List D → List D → Bool
  | [], [] => true
  | x :: xs, y :: ys => eqB x y && eqBs xs ys
  | _, _ => false
end
theorem toPys_map (ds : List D) : toPys ds = ds.map toPy := by
  induction ds with
  | nil => rfl
  | cons d ds ih => rw [toPys, ih, List.map_cons]
mutual
theorem dOk_canLay : ∀ (n : Nat) (d : D), dOk n d = true → (toPy d).canLay0 = true ∧ (toPy d).depth ≤ n
  | n, .non, _ => by simp [toPy, PyData.canLay0, PyData.depth]
  | n, .bl _, _ => by simp [toPy, PyData.canLay0, PyData.depth]
  | n, .int _, _ => by simp [toPy, PyData.canLay0, PyData.depth]
  | n, .str l, h => by
    rw [dOk] at h
    refine ⟨?_, by simp [toPy, PyData.depth]⟩
    rw [toPy, PyData.canLay0]
    unfold PyData.strOk
    rw [List.all_toArray]
    rw [List.all_eq_true] at h ⊢
    intro c hc
    have q := of_decide_eq_true (h c hc)
    exact decide_eq_true (by omega)
  | n + 1, .tup ds, h => by
    rw [dOk] at h
    have q := dOks_canLay n ds h
    rw [toPy, PyData.canLay0, PyData.depth]
    exact ⟨q.1, by have := q.2; omega⟩
  | n + 1, .lst ds, h => by
    rw [dOk] at h
    have q := dOks_canLay n ds h
    rw [toPy, PyData.canLay0, PyData.depth]
    exact ⟨q.1, by have := q.2; omega⟩
  | 0, .tup _, h => by simp [dOk] at h
  | 0, .lst _, h => by simp [dOk] at h
  | n, .unb, h => by cases n <;> simp [dOk] at h
  | n, .dset _, h => by cases n <;> simp [dOk] at h
  | n, .dct _, h => by cases n <;> simp [dOk] at h
  | n, .obj _ _, h => by cases n <;> simp [dOk] at h
  | n, .own _, h => by cases n <;> simp [dOk] at h
  | n, .ownD _, h => by cases n <;> simp [dOk] at h
  | n, .ownO _ _, h => by cases n <;> simp [dOk] at h
theorem dOks_canLay : ∀ (n : Nat) (ds : List D), dOks n ds = true → PyData.canLayAll0 (toPys ds) = true ∧ PyData.depthAll (toPys ds) ≤ n
  | n, [], _ => by simp [toPys, PyData.canLayAll0, PyData.depthAll]
  | n, d :: ds, h => by
    rw [dOks] at h
    have h := Bool.and_eq_true_iff.mp h
    have q1 := dOk_canLay n d h.1
    have q2 := dOks_canLay n ds h.2
    rw [toPys, PyData.canLayAll0, PyData.depthAll]
    refine ⟨Bool.and_eq_true_iff.mpr ⟨q1.1, q2.1⟩, ?_⟩
    exact Nat.max_le.mpr ⟨q1.2, q2.2⟩
end
theorem str_eq (x y : List Nat) : ((⟨x.toArray⟩ : Str) == ⟨y.toArray⟩) = (x == y) := by
  rw [Bool.eq_iff_iff]
  simp
mutual
theorem eqB_eqv : ∀ (n m : Nat) (d e : D), dOk n d = true → dOk m e = true → PyData.eqv (toPy d) (toPy e) = eqB d e
  | n, m, d, e, h, h' => by
    cases d <;> cases e <;> first
      | (simp [dOk] at h; done)
      | (simp [dOk] at h'; done)
      | (cases n <;> simp [dOk] at h; done)
      | (cases m <;> simp [dOk] at h'; done)
      | (simp [toPy, PyData.eqv, eqB]; done)
      | skip
    · rw [toPy, toPy, PyData.eqv, eqB, str_eq]
    · cases n with
      | zero => simp [dOk] at h
      | succ n =>
        cases m with
        | zero => simp [dOk] at h'
        | succ m =>
          rw [dOk] at h h'
          rw [toPy, toPy, PyData.eqv, eqB]
          exact eqBs_eqv n m _ _ h h'
    · cases n with
      | zero => simp [dOk] at h
      | succ n =>
        cases m with
        | zero => simp [dOk] at h'
        | succ m =>
          rw [dOk] at h h'
          rw [toPy, toPy, PyData.eqv, eqB]
          exact eqBs_eqv n m _ _ h h'
theorem eqBs_eqv : ∀ (n m : Nat) (ds es : List D), dOks n ds = true → dOks m es = true → PyData.eqvAll (toPys ds) (toPys es) = eqBs ds es
  | n, m, [], [], h, h' => by simp [toPys, PyData.eqvAll, eqBs]
  | n, m, [], _ :: _, h, h' => by simp [toPys, PyData.eqvAll, eqBs]
  | n, m, _ :: _, [], h, h' => by simp [toPys, PyData.eqvAll, eqBs]
  | n, m, d :: ds, e :: es, h, h' => by
    rw [dOks] at h h'
    have h := Bool.and_eq_true_iff.mp h
    have h' := Bool.and_eq_true_iff.mp h'
    rw [toPys, toPys, PyData.eqvAll, eqBs, eqB_eqv n m d e h.1 h'.1, eqBs_eqv n m ds es h.2 h'.2]
end
mutual
theorem rep_dp {K : PySem.W.Frag} {ct : Nat → Addr} {F H : Hp} (s : Same F H) : ∀ (n : Nat) (d : D) (v : V), dOk n d = true → Rep K ct F v d → Dp K H v (toPy d)
  | n, .non, _, _, r => by
    cases r
    rw [toPy]
    exact .non
    all_goals simp
  | n, .bl _, _, _, r => by
    cases r
    rw [toPy]
    exact .bl _
  | n, .int _, _, _, r => by
    cases r
    rw [toPy]
    exact .int _
  | n, .str _, _, _, r => by
    cases r
    rw [toPy]
    exact .str _
  | n + 1, .tup ds, _, h, r => by
    rw [dOk] at h
    cases r with
    | tup a b =>
      rw [toPy]
      exact .tup (.inl (.inl (s _ _ a))) (reps_dp s n ds _ h b)
  | n + 1, .lst ds, _, h, r => by
    rw [dOk] at h
    cases r with
    | lst a b =>
      rw [toPy]
      exact .lst (.inl (.inl (s _ _ a))) (reps_dp s n ds _ h b)
  | 0, .tup _, _, h, _ => by simp [dOk] at h
  | 0, .lst _, _, h, _ => by simp [dOk] at h
  | n, .unb, _, h, _ => by cases n <;> simp [dOk] at h
  | n, .dset _, _, h, _ => by cases n <;> simp [dOk] at h
  | n, .dct _, _, h, _ => by cases n <;> simp [dOk] at h
  | n, .obj _ _, _, h, _ => by cases n <;> simp [dOk] at h
  | n, .own _, _, h, _ => by cases n <;> simp [dOk] at h
  | n, .ownD _, _, h, _ => by cases n <;> simp [dOk] at h
  | n, .ownO _ _, _, h, _ => by cases n <;> simp [dOk] at h
theorem reps_dp {K : PySem.W.Frag} {ct : Nat → Addr} {F H : Hp} (s : Same F H) : ∀ (n : Nat) (ds : List D) (vs : List V), dOks n ds = true → Reps K ct F vs ds → DpAll K H vs (toPys ds)
  | n, [], _, _, r => by
    cases r
    rw [toPys]
    exact .nil
  | n, d :: ds, _, h, r => by
    rw [dOks] at h
    have h := Bool.and_eq_true_iff.mp h
    cases r with
    | cons r t =>
      rw [toPys]
      exact .cons (rep_dp s n d _ h.1 r) (reps_dp s n ds _ h.2 t)
end
def eqI : Int → Int → Bool
  | .ofNat a, .ofNat b => Nat.beq a b
  | .negSucc a, .negSucc b => Nat.beq a b
  | _, _ => false
theorem eqI_eq : ∀ i j : Int, eqI i j = (i == j)
  | .ofNat a, .ofNat b => by
    rw [Bool.eq_iff_iff, beq_iff_eq]
    exact ⟨fun h => congrArg Int.ofNat (Nat.eq_of_beq_eq_true h), fun h => by injection h with h; subst h; exact Nat.beq_refl _⟩
  | .negSucc a, .negSucc b => by
    rw [Bool.eq_iff_iff, beq_iff_eq]
    exact ⟨fun h => congrArg Int.negSucc (Nat.eq_of_beq_eq_true h), fun h => by injection h with h; subst h; exact Nat.beq_refl _⟩
  | .ofNat a, .negSucc b => by
    rw [Bool.eq_iff_iff, beq_iff_eq]
    exact ⟨fun h => Bool.noConfusion (h : false = true), fun h => Int.noConfusion h⟩
  | .negSucc a, .ofNat b => by
    rw [Bool.eq_iff_iff, beq_iff_eq]
    exact ⟨fun h => Bool.noConfusion (h : false = true), fun h => Int.noConfusion h⟩
def smallS (l : List Nat) : Bool := @List.rec Nat (fun _ => Bool) true (fun x _ ih => @Bool.rec (fun _ => Bool) false ih (Nat.blt x 1000)) l
theorem smallS_all : ∀ l : List Nat, smallS l = true → (l.all fun c => decide (c < 1000)) = true
  | [], _ => rfl
  | x :: r, h => by
    have h : @Bool.rec (fun _ => Bool) false (smallS r) (Nat.blt x 1000) = true := h
    cases q : Nat.blt x 1000 with
    | false =>
      rw [q] at h
      cases h
    | true =>
      rw [q] at h
      rw [List.all_cons, smallS_all r h, Bool.and_true]
      exact decide_eq_true (Nat.le_of_ble_eq_true q)
def fastEq : D → D → Option Bool
  | .int i, .int j => some (eqI i j)
  | .str x, .str y => iteR (smallS x) (iteR (smallS y) (some (PySem.W.Fast.lEq x y)) none) none
  | _, _ => none
theorem fastEq_some {a b : D} {r : Bool} (h : fastEq a b = some r) : (dOk 4 a && dOk 4 b) = true ∧ eqB a b = r := by
  unfold fastEq at h
  split at h
  · next i j =>
    obtain rfl := Option.some.inj h
    exact ⟨rfl, by rw [eqB, eqI_eq]⟩
  · next x y =>
    cases q1 : smallS x with
    | false =>
      rw [q1] at h
      cases h
    | true =>
      cases q2 : smallS y with
      | false =>
        rw [q1, q2] at h
        cases h
      | true =>
        rw [q1, q2] at h
        obtain rfl := Option.some.inj (show some (PySem.W.Fast.lEq x y) = some r from h)
        refine ⟨?_, ?_⟩
        · rw [dOk, dOk, smallS_all x q1, smallS_all y q2]
          rfl
        · rw [eqB, Bool.eq_iff_iff, beq_iff_eq]
          exact PySem.W.Fast.lEq_iff.symm
  · cases h
def eqD (a b : D) : Option D := match fastEq a b with
  | some r => some (.bl r)
  | none => if dOk 4 a && dOk 4 b then some (.bl (eqB a b)) else none
theorem eqD_some {a b d : D} (h : eqD a b = some d) : (dOk 4 a && dOk 4 b) = true ∧ d = .bl (eqB a b) := by
  unfold eqD at h
  split at h
  · next r q =>
    obtain ⟨w1, w2⟩ := fastEq_some q
    exact ⟨w1, by rw [w2]; exact (Option.some.inj h).symm⟩
  · split at h
    · next hh => exact ⟨hh, (Option.some.inj h).symm⟩
    · cases h
def neD (a b : D) : Option D := if dOk 4 a && dOk 4 b then some (.bl (!eqB a b)) else none
section
variable {X : Cx} {z : Zc} {f g h : En → Option D} {e a b c : Expr} {pos : Pos}
theorem op_eqE : OpD X.K z (rEqD X.K) eqD := fun F H x y p q d Q s hd r1 r2 k => by
  obtain ⟨hh, rfl⟩ := eqD_some hd
  have hh := Bool.and_eq_true_iff.mp hh
  refine ⟨toPy p, toPy q, rep_dp s 4 p x hh.1 r1, rep_dp s 4 q y hh.2 r2, ?_, ?_, ?_⟩
  · have w := dOk_canLay 4 p hh.1
    exact Bool.and_eq_true_iff.mpr ⟨w.1, decide_eq_true (by have := w.2; omega)⟩
  · have w := dOk_canLay 4 q hh.2
    exact Bool.and_eq_true_iff.mpr ⟨w.1, decide_eq_true (by have := w.2; omega)⟩
  · rw [eqB_eqv 4 4 p q hh.1 hh.2]
    exact k F H _ (.refl s) (.bl _)
theorem op_neE : OpD X.K z (rNeD X.K) neD := fun F H x y p q d Q s hd r1 r2 k => by
  unfold neD at hd
  split at hd
  · next hh =>
    obtain rfl := Option.some.inj hd
    have hh := Bool.and_eq_true_iff.mp hh
    refine ⟨toPy p, toPy q, rep_dp s 4 p x hh.1 r1, rep_dp s 4 q y hh.2 r2, ?_, ?_, ?_⟩
    · have w := dOk_canLay 4 p hh.1
      exact Bool.and_eq_true_iff.mpr ⟨w.1, decide_eq_true (by have := w.2; omega)⟩
    · have w := dOk_canLay 4 q hh.2
      exact Bool.and_eq_true_iff.mpr ⟨w.1, decide_eq_true (by have := w.2; omega)⟩
    · rw [eqB_eqv 4 4 p q hh.1 hh.2]
      exact k F H _ (.refl s) (.bl _)
  · cases hd
end
end
end DK
/-! DK3 -/
set_option Elab.async false
set_option linter.all false
set_option maxRecDepth 100000
set_option maxHeartbeats 1000000
namespace DK
noncomputable section
open PySem PySem.Spec PyProof.Rows L2
open SlX (Slt SlO slH putS Slot1 SIsi)

section
variable {X : Cx} {z : Zc} {f g h : En → Option D} {q r : En → Option Bool} {ag : En → Option (List D)} {e a b c : Expr} {es : List Expr} {pos : Pos} {k : Nat}
/-! ### tests -/
theorem t_val (he : PE X e (tD X.K z f)) (hw : ∀ whole, isTrue e X.env whole = (do let v ← whole; standAt e.pos; holding [v] (truthy v)) := by intro _; rfl) : PT X e (tQ X.K z (tst f)) := pt_imp (pt_val he hw) fun σ H Q ⟨F, env, E, d, hd, k⟩ => by
  obtain ⟨p, h1, hd⟩ := bnd_some hd
  refine ⟨F, env, E, p, h1, fun F1 H1 x g1 r1 => ?_⟩
  cases p <;> first | (cases hd; done) | skip
  obtain rfl := Option.some.inj hd
  exact ⟨_, rep_bl r1, k F1 H1 g1⟩
theorem t_not (he : PT X e (tQ X.K z q)) : PT X (.UnaryOp .Not e pos) (tQ X.K z (qNot q)) := pt_imp (pt_not he) fun σ H Q ⟨F, env, E, d, hd, k⟩ => by
  obtain ⟨p, h1, hd⟩ := bnd_some hd
  obtain rfl := Option.some.inj hd
  exact ⟨F, env, E, p, h1, fun F1 H1 g1 => k F1 H1 g1⟩
theorem w_one {op : BoolOp} (he : PT X e (tQ X.K z q)) (h : ∀ whole, isTrue (.BoolOp op [e] pos) X.env whole = isTrue e X.env (eval e X.env)) : PW X (.BoolOp op [e] pos) (tQ X.K z q) := ⟨fun wh pins s σ H Q I hq => by
  rw [h]
  exact he.run pins s σ H Q I hq⟩
theorem w_and1 (he : PT X e (tQ X.K z q)) : PW X (.BoolOp .And [e] pos) (tQ X.K z q) := pw_and1 he
theorem w_or1 (he : PT X e (tQ X.K z q)) : PW X (.BoolOp .Or [e] pos) (tQ X.K z q) := pw_or1 he
theorem w_and (ha : PT X a (tQ X.K z q)) (hb : PW X (.BoolOp .And (b :: es) pos) (tQ X.K z r)) : PW X (.BoolOp .And (a :: b :: es) pos) (tQ X.K z (qAnd q r)) := pw_imp (pw_and ha hb) fun σ H Q ⟨F, env, E, d, hd, k⟩ => by
  obtain ⟨p, h1, hd⟩ := bnd_some hd
  refine ⟨F, env, E, p, h1, fun F1 H1 g1 => ?_⟩
  cases p with
  | true => exact iteT ⟨F1, env, E.grow g1, d, hd, fun F2 H2 g2 => k F2 H2 (g1.trans g2)⟩
  | false =>
    obtain rfl := Option.some.inj hd
    exact iteF (k F1 H1 g1)
theorem w_or (ha : PT X a (tQ X.K z q)) (hb : PW X (.BoolOp .Or (b :: es) pos) (tQ X.K z r)) : PW X (.BoolOp .Or (a :: b :: es) pos) (tQ X.K z (qOr q r)) := pw_imp (pw_or ha hb) fun σ H Q ⟨F, env, E, d, hd, k⟩ => by
  obtain ⟨p, h1, hd⟩ := bnd_some hd
  refine ⟨F, env, E, p, h1, fun F1 H1 g1 => ?_⟩
  cases p with
  | false => exact iteF ⟨F1, env, E.grow g1, d, hd, fun F2 H2 g2 => k F2 H2 (g1.trans g2)⟩
  | true =>
    obtain rfl := Option.some.inj hd
    exact iteT (k F1 H1 g1)
theorem tst_some {env : En} {b : Bool} (h : tst f env = some b) : f env = some (.bl b) := by
  obtain ⟨p, h1, hd⟩ := bnd_some h
  cases p <;> first | (cases hd; done) | skip
  obtain rfl := Option.some.inj hd
  exact h1
theorem d_and (ha : PE X a (tD X.K z f)) (hb : PE X (.BoolOp .And (b :: es) pos) (tD X.K z g)) : PE X (.BoolOp .And (a :: b :: es) pos) (tD X.K z (eAnd f g)) := pe_imp (pe_and ha hb) fun σ H Q ⟨F, env, E, d, hd, k⟩ => by
  obtain ⟨p, h1, hd⟩ := bnd_some hd
  refine ⟨F, env, E, _, tst_some h1, fun F1 H1 x g1 r1 => ⟨p, rep_bl r1, ?_⟩⟩
  cases p with
  | true => exact iteT ⟨F1, env, E.grow g1, d, hd, fun F2 H2 v g2 r2 => k F2 H2 v (g1.trans g2) r2⟩
  | false =>
    obtain rfl := Option.some.inj hd
    exact iteF (k F1 H1 _ g1 (.bl _))
theorem d_or (ha : PE X a (tD X.K z f)) (hb : PE X (.BoolOp .Or (b :: es) pos) (tD X.K z g)) : PE X (.BoolOp .Or (a :: b :: es) pos) (tD X.K z (eOr f g)) := pe_imp (pe_or ha hb) fun σ H Q ⟨F, env, E, d, hd, k⟩ => by
  obtain ⟨p, h1, hd⟩ := bnd_some hd
  refine ⟨F, env, E, _, tst_some h1, fun F1 H1 x g1 r1 => ⟨p, rep_bl r1, ?_⟩⟩
  cases p with
  | false => exact iteF ⟨F1, env, E.grow g1, d, hd, fun F2 H2 v g2 r2 => k F2 H2 v (g1.trans g2) r2⟩
  | true =>
    obtain rfl := Option.some.inj hd
    exact iteT (k F1 H1 _ g1 (.bl _))
theorem d_not (ha : PE X a (tD X.K z f)) : PE X (.UnaryOp .Not a pos) (tD X.K z (eNot f)) := pe_imp (pe_not ha) fun σ H Q ⟨F, env, E, d, hd, k⟩ => by
  obtain ⟨p, h1, hd⟩ := bnd_some hd
  obtain rfl := Option.some.inj hd
  exact ⟨F, env, E, _, tst_some h1, fun F1 H1 x g1 r1 => ⟨p, rep_bl r1, k F1 H1 _ g1 (.bl _)⟩⟩
theorem d_if (hc : PT X c (tQ X.K z q)) (ha : PE X a (tD X.K z f)) (hb : PE X b (tD X.K z g)) : PE X (.IfExp c a b pos) (tD X.K z (eIf q f g)) := pe_imp (pe_ifExp hc ha hb) fun σ H Q ⟨F, env, E, d, hd, k⟩ => by
  obtain ⟨p, h1, hd⟩ := bnd_some hd
  refine ⟨F, env, E, p, h1, fun F1 H1 g1 => ?_⟩
  cases p with
  | true => exact iteT ⟨F1, env, E.grow g1, d, hd, fun F2 H2 v g2 r2 => k F2 H2 v (g1.trans g2) r2⟩
  | false => exact iteF ⟨F1, env, E.grow g1, d, hd, fun F2 H2 v g2 r2 => k F2 H2 v (g1.trans g2) r2⟩
def chD (o o' : D → D → Option D) (f g h : En → Option D) (env : En) : Option D := bnd (f env) fun a => bnd (g env) fun b => bnd (bnd (o a b) asB) fun t => if t then bnd (h env) fun c => o' b c else some (.bl false)
theorem d_chain {op op' : CmpOp} {o o' : D → D → Option D} {r r' : R2} (ho : OpR X (compareOp op) r) (ho' : OpR X (compareOp op') r') (hr : OpD X.K z r o) (hr' : OpD X.K z r' o') (ha : PE X a (tD X.K z f)) (hb : PE X b (tD X.K z g)) (hc : PE X c (tD X.K z h))
    (hm : lastMarks [op, op'] [b, c] = false := by with_unfolding_all rfl) : PE X (.Compare a [op, op'] [b, c] pos) (tD X.K z (chD o o' f g h)) := pe_imp (pe_chain ho ho' ha hb hc hm) fun σ H Q ⟨F, env, E, d, hd, k⟩ => by
  obtain ⟨p, h1, hd⟩ := bnd_some hd
  obtain ⟨p2, h2, hd⟩ := bnd_some hd
  obtain ⟨t, h3, hd⟩ := bnd_some hd
  obtain ⟨p3, h3, h4⟩ := bnd_some h3
  refine ⟨F, env, E, p, h1, fun F1 H1 x g1 r1 => ⟨F1, env, E.grow g1, p2, h2, fun F2 H2 y g2 r2 => ?_⟩⟩
  refine hr F2 H2 x y p p2 p3 _ g2.s h3 (r1.mono g2.f) r2 fun F3 H3 v g3 r3 => ?_
  have h4 : p3 = .bl t := by
    cases p3 <;> first | (cases h4; done) | skip
    obtain rfl := Option.some.inj h4
    rfl
  subst h4
  refine ⟨t, rep_bl r3, ?_⟩
  cases t with
  | false =>
    obtain rfl := Option.some.inj hd
    exact iteF (k F3 H3 _ ((g1.trans g2).trans g3) (.bl _))
  | true =>
    obtain ⟨p4, h5, hd⟩ := bnd_some (x := h env) (k := fun c => o' p2 c) hd
    refine iteT ⟨F3, env, E.grow ((g1.trans g2).trans g3), p4, h5, fun F4 H4 w g4 r4 => ?_⟩
    exact hr' F4 H4 y w p2 p4 d _ g4.s hd (r2.mono (g3.f.trans g4.f)) r4 fun F5 H5 v g5 r5 => k F5 H5 v ((((g1.trans g2).trans g3).trans g4).trans g5) r5
/-! ### arguments, displays -/
theorem a_nil : PA X [] (tL X.K z aNil) := pa_imp pa_nil fun σ H Q ⟨F, env, E, d, hd, k⟩ => by
  obtain rfl := Option.some.inj hd
  exact k F H [] (.refl E.sub) .nil
theorem a_cons (he : PE X e (tD X.K z f)) (hr : PA X es (tL X.K z ag)) (hs : starEach (e :: es) X.env = (false, eval e X.env) :: starEach es X.env := by rfl) : PA X (e :: es) (tL X.K z (aCons f ag)) := pa_imp (pa_cons he hr hs) fun σ H Q ⟨F, env, E, d, hd, k⟩ => by
  obtain ⟨p, h1, hd⟩ := bnd_some hd
  obtain ⟨ps, h2, hd⟩ := bnd_some hd
  obtain rfl := Option.some.inj hd
  exact ⟨F, env, E, p, h1, fun F1 H1 x g1 r1 => ⟨F1, env, E.grow g1, ps, h2, fun F2 H2 xs g2 r2 => k F2 H2 _ (g1.trans g2) (.cons (r1.mono g2.f) r2)⟩⟩
theorem d_tup {x1} (ha : PA X es (tL X.K z ag)) : PE X (.Tuple es x1 pos) (tD X.K z (asTup (sml ag))) := pe_imp (pe_tup ha) fun σ H Q ⟨F, env, E, d, hd, k⟩ => by
  obtain ⟨ps, h1, hd⟩ := bnd_some hd
  obtain rfl := Option.some.inj hd
  obtain ⟨qs, h1, h2⟩ := bnd_some h1
  obtain ⟨rfl, h2⟩ := small_some h2
  refine ⟨F, env, E, _, h1, fun F1 H1 xs g1 r1 => ⟨by rw [r1.length]; exact Nat.le_of_lt h2, fun p np => ?_⟩⟩
  have g2 := Grow.new (o := .tup xs) g1.s np
  exact k _ _ _ (g1.trans g2) (.tup upd_same (r1.mono g2.f))
theorem f_lst (ha : PA X es (tL X.K z ag)) : PE X (.List es pos) (tF X.K z (sml ag)) := pe_imp (pe_lst ha) fun σ H Q ⟨F, env, E, d, hd, k⟩ => by
  obtain ⟨qs, h1, h2⟩ := bnd_some hd
  obtain ⟨rfl, h2⟩ := small_some h2
  refine ⟨F, env, E, _, h1, fun F1 H1 xs g1 r1 => ⟨by rw [r1.length]; exact Nat.le_of_lt h2, fun p np => ?_⟩⟩
  have hn : H p = none := g1.h.free np
  exact k _ _ _ _ (g1.trans (Grow.apart g1.s np)) hn upd_same (g1.s.free np) r1
theorem d_ofF (he : PE X e (tF X.K z ag)) : PE X e (tD X.K z (asLst ag)) := pe_imp he fun σ H Q ⟨F, env, E, d, hd, k⟩ => by
  obtain ⟨ps, h1, hd⟩ := bnd_some hd
  obtain rfl := Option.some.inj hd
  refine ⟨F, env, E, ps, h1, fun F1 H1 p xs g1 np hp nf r1 => ?_⟩
  have s1 : Same F1 (upd F1 p (.lst xs)) := same_upd nf
  refine k (upd F1 p (.lst xs)) H1 _ ⟨g1.f.trans s1, g1.h, fun b o q => ?_, fun b o hb ht hf => ?_⟩ (.lst upd_same (r1.mono s1))
  · by_cases hb : b = p
    · subst hb
      rw [upd_same] at q
      rw [hp]
      exact q
    · rw [upd_ne hb] at q
      exact g1.s _ _ q
  · rw [upd_ne (ne_of_none hb np)]
    exact g1.n b o hb ht hf
/-! ### subscripts -/
def atR (ds : List D) : Int → Option D
  | .ofNat n => gqR ds n
  | .negSucc n => atI ds (.negSucc n)
theorem atR_atI {ds : List D} {i : Int} {d : D} (h : atR ds i = some d) : atI ds i = some d := by
  cases i with
  | negSucc n => exact h
  | ofNat n =>
    have h : ds[n]? = some d := (gqR_eq ds n).symm.trans h
    have hlt : n < ds.length := (List.getElem?_eq_some_iff.mp h).1
    unfold atI ixN
    rw [if_pos (show (0 : Int) ≤ Int.ofNat n from Int.natCast_nonneg n), if_pos (show Int.ofNat n < (ds.length : Int) from Int.ofNat_lt.mpr hlt)]
    exact h
def ixD : D → D → Option D
  | .lst ds, .int i => atR ds i
  | .tup ds, .int i => atR ds i
  | .str l, .int i => if l.length ≤ 1000 then bnd (atI l i) fun c => some (.str [c]) else none
  | _, _ => none
theorem reps_atI {K : PySem.W.Frag} {ct : Nat → Addr} {F : Hp} {xs : List V} {ds : List D} {i : Int} {d : D} (r : Reps K ct F xs ds) (h : atI ds i = some d) : ∃ v, atI xs i = some v ∧ Rep K ct F v d := by
  unfold atI at h ⊢
  rw [r.length]
  cases e : ixN ds.length i with
  | none => rw [e] at h; cases h
  | some j =>
    rw [e] at h
    exact r.get h
theorem d_ix (ha : PE X a (tD X.K z f)) (hb : PE X b (tD X.K z g)) (hs : PlainIx b := by exact fun _ _ => rfl) : PE X (.Subscript a b pos) (tD X.K z (b2 ixD f g)) := pe_imp (pe_ix ix_seq ha hb hs) (two fun F H x y p q d Q s hd r1 r2 k => by
  cases p <;> cases q <;> first | (cases hd; done) | skip
  · rename_i l i
    have hd : (if l.length ≤ 1000 then bnd (atI l i) fun c => some (D.str [c]) else none) = some d := hd
    split at hd
    · next hl =>
      obtain ⟨c, h1, hd⟩ := bnd_some hd
      obtain rfl := Option.some.inj hd
      refine .inr (.inr ⟨_, _, c, rep_str r1, rep_int r2, ?_, h1, k F H _ (.refl s) (.str [c])⟩)
      show l.toArray.size ≤ sizeLine
      rw [List.size_toArray]
      exact Nat.le_trans hl (by decide)
    · cases hd
  · cases r1 with
    | tup h1 h2 =>
      obtain ⟨v, h3, h4⟩ := reps_atI h2 (atR_atI hd)
      exact .inr (.inl ⟨_, _, _, v, rfl, rep_int r2, .inl (.inl (s _ _ h1)), h3, k F H v (.refl s) h4⟩)
  · cases r1 with
    | lst h1 h2 =>
      obtain ⟨v, h3, h4⟩ := reps_atI h2 (atR_atI hd)
      exact .inl ⟨_, _, _, v, rfl, rep_int r2, .inl (.inl (s _ _ h1)), h3, k F H v (.refl s) h4⟩)
def cutD {α : Type} (ds : List α) (lo hi : Option Int) : List α := (ds.drop (HT.sIx ds.length 0 lo)).take (HT.sIx ds.length ds.length hi - HT.sIx ds.length 0 lo)
theorem reps_cut {K : PySem.W.Frag} {ct : Nat → Addr} {F : Hp} {xs : List V} {ds : List D} (lo hi : Option Int) (r : Reps K ct F xs ds) : Reps K ct F (cutV xs lo hi) (cutD ds lo hi) := by
  unfold cutV cutD
  rw [r.length]
  exact (r.drop _).take _
def fromD : D → D → Option D
  | .tup ds, .int i => some (.tup (cutD ds (some i) none))
  | _, _ => none
def toD : D → D → Option D
  | .str l, .int i => if l.length ≤ 1000 then some (.str (cutD l none (some i))) else none
  | _, _ => none
theorem cut_whole {α : Type} {ds : List α} {lo hi : Option Int} (h : HT.sIx ds.length 0 lo = 0 ∧ HT.sIx ds.length ds.length hi = ds.length) : cutD ds lo hi = ds := by
  unfold cutD
  rw [h.1, h.2]
  simp
/-- t[i:] -/
theorem d_from {p2 : Pos} (ha : PE X a (tD X.K z f)) (hb : PE X b (tD X.K z g)) : PE X (.Subscript a (.Slice (some b) none none p2) pos) (tD X.K z (b2 fromD f g)) := pe_imp (pe_slice sl_tupA ha (po_some hb) po_none) fun σ H Q ⟨F, env, E, d, hd, k⟩ => by
  obtain ⟨p, h1, hd⟩ := bnd_some hd
  obtain ⟨p2, h2, hd⟩ := bnd_some hd
  refine ⟨F, env, E, p, h1, fun F1 H1 x g1 r1 => ⟨F1, env, E.grow g1, p2, h2, fun F2 H2 y g2 r2 => ?_⟩⟩
  cases p <;> cases p2 <;> first | (cases hd; done) | skip
  obtain rfl := Option.some.inj hd
  refine ⟨_, rep_int r2, ?_⟩
  cases r1.mono g2.f with
  | tup h3 h4 =>
    rename_i ad xs
    refine ⟨ad, xs, rfl, .inl (.inl (g2.s _ _ h3)), fun hw => ?_, fun hw p np => ?_⟩
    · rw [h4.length] at hw
      refine k F2 H2 _ (g1.trans g2) ?_
      rw [cut_whole hw]
      exact .tup h3 h4
    · exact k _ _ _ ((g1.trans g2).trans (Grow.new g2.s np)) (.tup upd_same ((reps_cut _ _ h4).mono (Grow.new g2.s np).f))
/-- s[:i] -/
theorem d_to {p2 : Pos} (ha : PE X a (tD X.K z f)) (hb : PE X b (tD X.K z g)) : PE X (.Subscript a (.Slice none (some b) none p2) pos) (tD X.K z (b2 toD f g)) := pe_imp (pe_slice sl_str ha po_none (po_some hb)) fun σ H Q ⟨F, env, E, d, hd, k⟩ => by
  obtain ⟨p, h1, hd⟩ := bnd_some hd
  obtain ⟨p2, h2, hd⟩ := bnd_some hd
  refine ⟨F, env, E, p, h1, fun F1 H1 x g1 r1 => ⟨F1, env, E.grow g1, p2, h2, fun F2 H2 y g2 r2 => ?_⟩⟩
  cases p <;> cases p2 <;> first | (cases hd; done) | skip
  simp only [toD] at hd
  split at hd
  · next hl =>
    obtain rfl := Option.some.inj hd
    refine ⟨_, rep_int r2, _, rep_str r1, ?_, ?_⟩
    · show (List.toArray _).size ≤ sizeLine
      rw [List.size_toArray]
      exact Nat.le_trans hl (by decide)
    · have q := k F2 H2 (.str ⟨_⟩) (g1.trans g2) (.str _)
      unfold cutS
      unfold cutD at q
      simpa [Str.length] using q
  · cases hd
def revD : D → Option (List D)
  | .lst ds => some ds.reverse
  | _ => none
def uF (o : D → Option (List D)) (f : En → Option D) (env : En) : Option (List D) := bnd (f env) o
/-- xs[::-1] -/
theorem f_rev {j : Nat} {p1 p2 p3 : Pos} (ha : PE X a (tD X.K z f)) : PE X (.Subscript a (.Slice none none (some (.UnaryOp .USub (.Constant (.int 1) j p1) p2)) p3) pos) (tF X.K z (uF revD f)) := pe_imp (pe_revL ha) fun σ H Q ⟨F, env, E, d, hd, k⟩ => by
  obtain ⟨p, h1, hd⟩ := bnd_some hd
  refine ⟨F, env, E, p, h1, fun F1 H1 x g1 r1 => ?_⟩
  cases p <;> first | (cases hd; done) | skip
  obtain rfl := Option.some.inj hd
  cases r1 with
  | lst h3 h4 => exact ⟨_, _, rfl, .inl (.inl (g1.s _ _ h3)), fun p np => k _ _ _ _ (g1.trans (Grow.apart g1.s np)) (g1.h.free np) upd_same (g1.s.free np) h4.rev⟩
end
end
end DK
/-! DK4 -/
set_option Elab.async false
set_option linter.all false
set_option maxRecDepth 100000
set_option maxHeartbeats 1000000
namespace DK
noncomputable section
open PySem PySem.Spec PyProof.Rows L2
open SlX (Slt SlO slH putS Slot1 SIsi)

/-! ### what a def promises -/
def spD (K : PySem.W.Frag) (ct : Nat → Addr) (fn : List D → Option D) : Sp := fun vs H Q _ => ∃ F ds, Same F H ∧ Reps K ct F vs ds ∧ ∃ r, fn ds = some r ∧ ∀ F' H' v, Grow F H F' H' → Rep K ct F' v r → Q v H'
/-- the module's name x is a def that computes fn -/
structure Cal (P : Program) (w : World) (K : PySem.W.Frag) (mg : Str → Option Value) (base : Heap) (ct : Nat → Addr) (k : Nat) (x : Str) (fn : List D → Option D) : Prop where
  ex : ∃ (fa : Addr) (fd : FuncData) (ps : List Str), FnOk P w K mg base CX0 k fa fd ps (spD K ct fn) ∧ mg x = some (.ref fa) ∧ PySem.W.keepIn K (.ref fa) = true ∧ Binds K fd ps []
/-- the def at fa computes fn -/
def Met (P : Program) (w : World) (K : PySem.W.Frag) (mg : Str → Option Value) (base : Heap) (ct : Nat → Addr) (k : Nat) (fa : Addr) (fn : List D → Option D) : Prop := FnR P w K mg base CX0 k fa (spD K ct fn)
theorem met_of {P : Program} {w : World} {K : PySem.W.Frag} {mg : Str → Option Value} {base : Heap} {ct : Nat → Addr} {k : Nat} {fa : Addr} {fd : FuncData} {ps : List Str} {fn : List D → Option D} (G : FnOk P w K mg base CX0 k fa fd ps (spD K ct fn)) (b : Binds K fd ps []) : Met P w K mg base ct k fa fn :=
  (G.raw b .nil).imp fun vs H Q E h => by
    rw [List.append_nil]
    exact h
/-- facts of a class: its slots, its isinstance -/
structure Kls (K : PySem.W.Frag) (mg : Str → Option Value) (x : Str) (C : Addr) : Prop where
  sc : SlX.SCls K C
  si : SIsi K C
  is_ : PySem.W.kitOne K (.ref C) (.ref C) = some true
  mg : mg x = some (.ref C)
/-- a property's facts -/
structure Prp (K : PySem.W.Frag) (C : Addr) (f : Str) (g : Addr) : Prop where
  ex : ∃ p, PySem.W.findIn K (.ref C) f = some (some (.ref p)) ∧ PySem.W.specialIn K (.ref p) "__get__" = some (some (.builtin "property.__get__")) ∧ PySem.W.takesIn K (.ref p) = some true ∧ ∃ rest, PySem.W.recIn K p "property" = some (.ref g :: rest)
def callD (fn : List D → Option D) (g : En → Option (List D)) (env : En) : Option D := bnd (g env) fn
def u1L (fn : List D → Option D) (f : En → Option D) (env : En) : Option D := bnd (f env) fun d => fn [d]
def callF (fn : List D → Option (List D)) (g : En → Option (List D)) (env : En) : Option (List D) := bnd (g env) fn
def fldD (c i : Nat) : D → Option D
  | .obj c' ds => iteR (Nat.beq c c') (gqR ds i) none
  | _ => none
def isoD (c : Nat) : D → Option D
  | .obj c' _ => if c = c' then some (.bl true) else none
  | _ => none
def isiInt : D → Option D
  | .int _ => some (.bl true)
  | _ => none
def isiBool : D → Option D
  | .int _ => some (.bl false)
  | _ => none
def isiTup : D → Option D
  | .tup _ => some (.bl true)
  | _ => none
def isiStr : D → Option D
  | .str _ => some (.bl true)
  | _ => none

section
variable {X : Cx} {z : Zc} {f g h : En → Option D} {q r : En → Option Bool} {ag : En → Option (List D)} {e a b c : Expr} {es : List Expr} {pos : Pos} {k : Nat} {fn : List D → Option D}
theorem d_call {x : Str} {p : Pos} (C : Cal X.prog X.w X.K X.mg X.base z.ct k x fn) (hr : Room k X.A) (ha : PA X (e :: es) (tL X.K z ag)) (hg : Gl X x := by rfl) (hdb : (x == ("__debug__" : Str)) = false := by decide)
    (he : starEach (e :: es) X.env = (false, eval e X.env) :: starEach es X.env := by rfl) (hpl : (backTo pos (starEach es X.env)).any (·.1) = false := by rfl) : PE X (.Call (.Name x p) (e :: es) [] pos) (tD X.K z (callD fn ag)) := by
  obtain ⟨fa, fd, ps, G, hm, hk, hb⟩ := C.ex
  refine pe_imp (pe_call G hr hg hm hk hb .nil pass0 ha hdb he hpl) fun σ H Q ⟨F, env, E, d, hd, kq⟩ => ?_
  obtain ⟨ds, h1, hd⟩ := bnd_some hd
  refine ⟨F, env, E, ds, h1, fun F1 H1 vs g1 r1 => ?_⟩
  show spD X.K z.ct fn (vs ++ []) H1 Q E0
  rw [List.append_nil]
  exact ⟨F1, ds, g1.s, r1, d, hd, fun F2 H2 v g2 r2 => kq F2 H2 v (g1.trans g2) r2⟩
theorem d_fld {x fl : Str} {c i : Nat} {p : Addr} (C : Kls X.K X.mg x (z.ct c)) (S1 : Slot1 X.K (z.ct c) fl p i) (he : PE X e (tD X.K z f)) (hb : attributeBase e fl X.env (eval e X.env) = eval e X.env := by rfl) : PE X (.Attribute e fl pos) (tD X.K z (u1 (fldD c i) f)) := pe_imp (SlX.pe_sl he hb) fun σ H Q ⟨F, env, E, d, hd, kq⟩ => by
  obtain ⟨o, h1, hd⟩ := bnd_some hd
  refine ⟨F, env, E, o, h1, fun F1 H1 x g1 r1 => ?_⟩
  cases o <;> first | (cases hd; done) | skip
  rename_i c' ds'
  replace hd : iteR (Nat.beq c c') (gqR ds' i) none = some d := hd
  cases hq : Nat.beq c c' with
  | true =>
    have hc := Nat.eq_of_beq_eq_true hq
    rw [hq] at hd
    replace hd : ds'[i]? = some d := (gqR_eq ds' i).symm.trans hd
    subst hc
    cases r1 with
    | obj h2 h3 =>
      obtain ⟨v, h4, h5⟩ := h3.get hd
      refine ⟨_, _, _, p, _, i, v, rfl, same_slt g1.s h2, C.sc, S1, ?_, kq F1 H1 v g1 h5⟩
      rw [List.getElem?_map, h4]
      rfl
  | false =>
    rw [hq] at hd
    cases hd
theorem d_prop {x fl : Str} {c : Nat} {ga : Addr} (C : Kls X.K X.mg x (z.ct c)) (P : Prp X.K (z.ct c) fl ga) (M : Met X.prog X.w X.K X.mg X.base z.ct k ga fn) (hr : Room (k + 1) X.A) (he : PE X e (tD X.K z f)) (ho : ∀ d r, fn [d] = some r → ∃ ds, d = .obj c ds)
    (hb : attributeBase e fl X.env (eval e X.env) = eval e X.env := by rfl) : PE X (.Attribute e fl pos) (tD X.K z (u1L fn f)) := by
  obtain ⟨p, p1, p2, p3, p4⟩ := P.ex
  refine pe_imp (SlX.pe_propSl he C.sc p1 p2 p3 p4 M hr (E := E0) (fun _ _ _ _ x => x) hb) fun σ H Q ⟨F, env, E, d, hd, kq⟩ => ?_
  obtain ⟨o, h1, hd⟩ := bnd_some hd
  refine ⟨F, env, E, o, h1, fun F1 H1 x g1 r1 => ?_⟩
  obtain ⟨ds, rfl⟩ := ho o d hd
  cases id r1 with
  | obj h2 h3 => exact ⟨_, _, _, rfl, same_slt g1.s h2, F1, [.obj c ds], g1.s, .cons r1 .nil, d, hd, fun F2 H2 v g2 r2 => kq F2 H2 v (g1.trans g2) r2⟩
theorem d_meth0 {x m : Str} {c : Nat} {ga : Addr} {apos : Pos} {pl : Sem Bool} (C : Kls X.K X.mg x (z.ct c)) (hm : Meth X.K (z.ct c) m ga) (M : Met X.prog X.w X.K X.mg X.base z.ct k ga fn) (hr : Room k X.A) (he : PE X e (tD X.K z f)) (ho : ∀ d r, fn [d] = some r → ∃ ds, d = .obj c ds)
    (ht : eval (.Call (.Attribute e m apos) [] [] pos) X.env = (do
      let ov ← eval e X.env
      standAt apos.atName
      let (f, first) ← holding [ov] (getMethod ov m pl)
      callWith pos f first (backTo pos (starEach [] X.env)) (backToKw pos (keywordEach [] X.env))) := by rfl) : PE X (.Call (.Attribute e m apos) [] [] pos) (tD X.K z (u1L fn f)) := by
  refine pe_imp (SlX.pe_methSl0 he C.sc hm M hr (E := E0) pass0 ht) fun σ H Q ⟨F, env, E, d, hd, kq⟩ => ?_
  obtain ⟨o, h1, hd⟩ := bnd_some hd
  refine ⟨F, env, E, o, h1, fun F1 H1 x g1 r1 => ?_⟩
  obtain ⟨ds, rfl⟩ := ho o d hd
  cases id r1 with
  | obj h2 h3 => exact ⟨_, _, _, rfl, same_slt g1.s h2, F1, [.obj c ds], g1.s, .cons r1 .nil, d, hd, fun F2 H2 v g2 r2 => kq F2 H2 v (g1.trans g2) r2⟩
/-! ### built-ins by values -/
def ClD (K : PySem.W.Frag) (z : Zc) (r : List V → Hp → VK → Prop) (o : List D → Option D) : Prop := ∀ (F H : Hp) (xs : List V) (ds : List D) (d : D) (Q : VK), Same F H → o ds = some d → Reps K z.ct F xs ds →
  (∀ F' H' v, Grow F H F' H' → Rep K z.ct F' v d → Q v H') → r xs H Q
def ClF (K : PySem.W.Frag) (z : Zc) (r : List V → Hp → VK → Prop) (o : List D → Option (List D)) : Prop := ∀ (F H : Hp) (xs : List V) (ds es : List D) (Q : VK), Same F H → o ds = some es → Reps K z.ct F xs ds →
  (∀ F' H' p ys, Grow F H F' H' → H p = none → H' p = some (.lst ys) → F' p = none → Reps K z.ct F' ys es → Q (.ref p) H') → r xs H Q
theorem cb_tD {r : List V → Hp → VK → Prop} (hr : ClD X.K z r fn) : ∀ σ H Q, tD X.K z (callD fn ag) σ H Q → tCB r (tL X.K z ag) σ H Q := fun σ H Q ⟨F, env, E, d, hd, kq⟩ => by
  obtain ⟨ds, h1, hd⟩ := bnd_some hd
  exact ⟨F, env, E, ds, h1, fun F1 H1 vs g1 r1 => hr F1 H1 vs ds d Q g1.s hd r1 fun F2 H2 v g2 r2 => kq F2 H2 v (g1.trans g2) r2⟩
theorem cb_tF {r : List V → Hp → VK → Prop} {fl : List D → Option (List D)} (hr : ClF X.K z r fl) : ∀ σ H Q, tF X.K z (callF fl ag) σ H Q → tCB r (tL X.K z ag) σ H Q := fun σ H Q ⟨F, env, E, d, hd, kq⟩ => by
  obtain ⟨ds, h1, hd⟩ := bnd_some hd
  exact ⟨F, env, E, ds, h1, fun F1 H1 vs g1 r1 => hr F1 H1 vs ds d Q g1.s hd r1 fun F2 H2 p ys g2 np hp nf r2 => kq F2 H2 p ys (g1.trans g2) (g1.h.free np) hp nf r2⟩
theorem d_callB {x : Str} {p : Pos} {id : String} {r : List V → Hp → VK → Prop} (hc : CallR X (.builtin id) r) (hr : ClD X.K z r fn) (hm : X.mg x = none) (hv : bootBuiltins x = some (.builtin id)) (ha : PA X (e :: es) (tL X.K z ag)) (hg : Gl X x := by rfl) (hn : x ≠ "__name__" := by decide) (hdb : (x == ("__debug__" : Str)) = false := by decide)
    (he : starEach (e :: es) X.env = (false, eval e X.env) :: starEach es X.env := by rfl) (hpl : (backTo pos (starEach es X.env)).any (·.1) = false := by rfl) : PE X (.Call (.Name x p) (e :: es) [] pos) (tD X.K z (callD fn ag)) := pe_imp (pe_callB hc hg hm hv ha hn hdb he hpl) (cb_tD hr)
theorem f_callB {x : Str} {p : Pos} {id : String} {r : List V → Hp → VK → Prop} {fl : List D → Option (List D)} (hc : CallR X (.builtin id) r) (hr : ClF X.K z r fl) (hm : X.mg x = none) (hv : bootBuiltins x = some (.builtin id)) (ha : PA X (e :: es) (tL X.K z ag)) (hg : Gl X x := by rfl) (hn : x ≠ "__name__" := by decide) (hdb : (x == ("__debug__" : Str)) = false := by decide)
    (he : starEach (e :: es) X.env = (false, eval e X.env) :: starEach es X.env := by rfl) (hpl : (backTo pos (starEach es X.env)).any (·.1) = false := by rfl) : PE X (.Call (.Name x p) (e :: es) [] pos) (tF X.K z (callF fl ag)) := pe_imp (pe_callB hc hg hm hv ha hn hdb he hpl) (cb_tF hr)
theorem d_callTy {x : Str} {p : Pos} {T : String} {r : List V → Hp → VK → Prop} (hc : CallR X (.type T) r) (hr : ClD X.K z r fn) (hm : X.mg x = none) (hv : bootBuiltins x = some (.type T)) (ha : PA X (e :: es) (tL X.K z ag)) (hg : Gl X x := by rfl) (hn : x ≠ "__name__" := by decide) (hdb : (x == ("__debug__" : Str)) = false := by decide)
    (he : starEach (e :: es) X.env = (false, eval e X.env) :: starEach es X.env := by rfl) (hpl : (backTo pos (starEach es X.env)).any (·.1) = false := by rfl) : PE X (.Call (.Name x p) (e :: es) [] pos) (tD X.K z (callD fn ag)) := pe_imp (pe_callTy hc hg hm hv ha hn hdb he hpl) (cb_tD hr)
theorem f_callTy {x : Str} {p : Pos} {T : String} {r : List V → Hp → VK → Prop} {fl : List D → Option (List D)} (hc : CallR X (.type T) r) (hr : ClF X.K z r fl) (hm : X.mg x = none) (hv : bootBuiltins x = some (.type T)) (ha : PA X (e :: es) (tL X.K z ag)) (hg : Gl X x := by rfl) (hn : x ≠ "__name__" := by decide) (hdb : (x == ("__debug__" : Str)) = false := by decide)
    (he : starEach (e :: es) X.env = (false, eval e X.env) :: starEach es X.env := by rfl) (hpl : (backTo pos (starEach es X.env)).any (·.1) = false := by rfl) : PE X (.Call (.Name x p) (e :: es) [] pos) (tF X.K z (callF fl ag)) := pe_imp (pe_callTy hc hg hm hv ha hn hdb he hpl) (cb_tF hr)
theorem d_callM {x : Str} {p : Pos} {id : String} {r : List V → Hp → VK → Prop} (hc : CallR X (.builtin id) r) (hr : ClD X.K z r fn) (hm : X.mg x = some (.builtin id)) (ha : PA X (e :: es) (tL X.K z ag)) (hg : Gl X x := by rfl) (hdb : (x == ("__debug__" : Str)) = false := by decide)
    (he : starEach (e :: es) X.env = (false, eval e X.env) :: starEach es X.env := by rfl) (hpl : (backTo pos (starEach es X.env)).any (·.1) = false := by rfl) : PE X (.Call (.Name x p) (e :: es) [] pos) (tD X.K z (callD fn ag)) := pe_imp (pe_callBfun hc hg hm ha hdb he hpl) (cb_tD hr)
/-! ### isinstance -/
theorem d_isi {p p2 : Pos} {y : Str} {T : String} {o : D → Option D} (hm : X.mg "isinstance" = none) (hmy : X.mg y = none) (hy : bootBuiltins y = some (.type T)) (ha : PE X a (tD X.K z f)) (hgy : Gl X y) (hny : y ≠ "__name__") (hdy : (y == ("__debug__" : Str)) = false)
    (ho : ∀ (F H : Hp) (x : V) (d r : D), Same F H → o d = some r → Rep X.K z.ct F x d → ∃ t b, TyX X.K H x (.type t) ∧ kitB t T = some b ∧ r = .bl b) (hg : Gl X "isinstance" := by rfl) (he1 : starEach [a, .Name y p2] X.env = (false, eval a X.env) :: starEach [.Name y p2] X.env := by rfl) (he2 : starEach [.Name y p2] X.env = (false, eval (.Name y p2) X.env) :: starEach [] X.env := by rfl)
    (hpl : (backTo pos (starEach [.Name y p2] X.env)).any (·.1) = false := by rfl) : PE X (.Call (.Name "isinstance" p) [a, .Name y p2] [] pos) (tD X.K z (u1 o f)) := by
  refine pe_imp (pe_callB call_isi hg hm boot_isinstance (pa_cons ha (pa_cons (pe_bltn (v := .ty T) hgy hmy hy rfl hny hdy) pa_nil he2) he1) (by decide) (by decide) he1 hpl) fun σ H Q ⟨F, env, E, d, hd, kq⟩ => ?_
  obtain ⟨c, h1, hd⟩ := bnd_some hd
  refine ⟨F, env, E, c, h1, fun F1 H1 x g1 r1 => ?_⟩
  obtain ⟨t, b, h2, h3, rfl⟩ := ho F1 H1 x c d g1.s hd r1
  exact ⟨x, .ty T, .type t, .type T, b, rfl, .ty T, h2, kit_ty h3, kq F1 H1 _ g1 (.bl _)⟩
theorem d_isiInt {p p2 : Pos} (hm : X.mg "isinstance" = none) (hmy : X.mg "int" = none) (ha : PE X a (tD X.K z f)) (hgy : Gl X "int" := by rfl) (hg : Gl X "isinstance" := by rfl) (he1 : starEach [a, .Name "int" p2] X.env = (false, eval a X.env) :: starEach [.Name "int" p2] X.env := by rfl)
    (he2 : starEach [.Name "int" p2] X.env = (false, eval (.Name "int" p2) X.env) :: starEach [] X.env := by rfl) (hpl : (backTo pos (starEach [.Name "int" p2] X.env)).any (·.1) = false := by rfl) : PE X (.Call (.Name "isinstance" p) [a, .Name "int" p2] [] pos) (tD X.K z (u1 isiInt f)) :=
  d_isi hm hmy boot_int ha hgy (by decide) (by decide) (fun F H x d r s h1 h2 => by
    cases d <;> first | (cases h1; done) | skip
    obtain rfl := Option.some.inj h1
    rw [rep_int h2]
    exact ⟨"int", true, .base (.int _), by decide +kernel, rfl⟩) hg he1 he2 hpl
theorem d_isiBool {p p2 : Pos} (hm : X.mg "isinstance" = none) (hmy : X.mg "bool" = none) (ha : PE X a (tD X.K z f)) (hgy : Gl X "bool" := by rfl) (hg : Gl X "isinstance" := by rfl) (he1 : starEach [a, .Name "bool" p2] X.env = (false, eval a X.env) :: starEach [.Name "bool" p2] X.env := by rfl)
    (he2 : starEach [.Name "bool" p2] X.env = (false, eval (.Name "bool" p2) X.env) :: starEach [] X.env := by rfl) (hpl : (backTo pos (starEach [.Name "bool" p2] X.env)).any (·.1) = false := by rfl) : PE X (.Call (.Name "isinstance" p) [a, .Name "bool" p2] [] pos) (tD X.K z (u1 isiBool f)) :=
  d_isi hm hmy boot_bool ha hgy (by decide) (by decide) (fun F H x d r s h1 h2 => by
    cases d <;> first | (cases h1; done) | skip
    obtain rfl := Option.some.inj h1
    rw [rep_int h2]
    exact ⟨"int", false, .base (.int _), by decide +kernel, rfl⟩) hg he1 he2 hpl
theorem d_isiTup {p p2 : Pos} (hm : X.mg "isinstance" = none) (hmy : X.mg "tuple" = none) (ha : PE X a (tD X.K z f)) (hgy : Gl X "tuple" := by rfl) (hg : Gl X "isinstance" := by rfl) (he1 : starEach [a, .Name "tuple" p2] X.env = (false, eval a X.env) :: starEach [.Name "tuple" p2] X.env := by rfl)
    (he2 : starEach [.Name "tuple" p2] X.env = (false, eval (.Name "tuple" p2) X.env) :: starEach [] X.env := by rfl) (hpl : (backTo pos (starEach [.Name "tuple" p2] X.env)).any (·.1) = false := by rfl) : PE X (.Call (.Name "isinstance" p) [a, .Name "tuple" p2] [] pos) (tD X.K z (u1 isiTup f)) :=
  d_isi hm hmy boot_tuple ha hgy (by decide) (by decide) (fun F H x d r s h1 h2 => by
    cases d <;> first | (cases h1; done) | skip
    obtain rfl := Option.some.inj h1
    cases h2 with
    | tup h3 _ => exact ⟨"tuple", true, .base (.tup (s _ _ h3)), by decide +kernel, rfl⟩) hg he1 he2 hpl
theorem d_isiStr {p p2 : Pos} (hm : X.mg "isinstance" = none) (hmy : X.mg "str" = none) (ha : PE X a (tD X.K z f)) (hgy : Gl X "str" := by rfl) (hg : Gl X "isinstance" := by rfl) (he1 : starEach [a, .Name "str" p2] X.env = (false, eval a X.env) :: starEach [.Name "str" p2] X.env := by rfl)
    (he2 : starEach [.Name "str" p2] X.env = (false, eval (.Name "str" p2) X.env) :: starEach [] X.env := by rfl) (hpl : (backTo pos (starEach [.Name "str" p2] X.env)).any (·.1) = false := by rfl) : PE X (.Call (.Name "isinstance" p) [a, .Name "str" p2] [] pos) (tD X.K z (u1 isiStr f)) :=
  d_isi hm hmy boot_str ha hgy (by decide) (by decide) (fun F H x d r s h1 h2 => by
    cases d <;> first | (cases h1; done) | skip
    obtain rfl := Option.some.inj h1
    rw [rep_str h2]
    exact ⟨"str", true, .base (.str _), by decide +kernel, rfl⟩) hg he1 he2 hpl
theorem d_isiO {p p2 : Pos} {x : Str} {c : Nat} (hm : X.mg "isinstance" = none) (C : Kls X.K X.mg x (z.ct c)) (ha : PE X a (tD X.K z f)) (hgx : Gl X x := by rfl) (hdx : (x == ("__debug__" : Str)) = false := by decide) (hg : Gl X "isinstance" := by rfl) (he1 : starEach [a, .Name x p2] X.env = (false, eval a X.env) :: starEach [.Name x p2] X.env := by rfl)
    (he2 : starEach [.Name x p2] X.env = (false, eval (.Name x p2) X.env) :: starEach [] X.env := by rfl) (hpl : (backTo pos (starEach [.Name x p2] X.env)).any (·.1) = false := by rfl) : PE X (.Call (.Name "isinstance" p) [a, .Name x p2] [] pos) (tD X.K z (u1 (isoD c) f)) := by
  refine pe_imp (pe_callB (SlX.call_isiSl (.ref (z.ct c))) hg hm boot_isinstance (pa_cons ha (pa_cons (pe_glob (v := .ref (z.ct c)) hgx C.mg rfl hdx) pa_nil he2) he1) (by decide) (by decide) he1 hpl) fun σ H Q ⟨F, env, E, d, hd, kq⟩ => ?_
  obtain ⟨o, h1, hd⟩ := bnd_some hd
  refine ⟨F, env, E, o, h1, fun F1 H1 x g1 r1 => ?_⟩
  cases o <;> first | (cases hd; done) | skip
  simp only [isoD] at hd
  split at hd
  · next hc =>
    subst hc
    obtain rfl := Option.some.inj hd
    cases r1 with
    | obj h2 h3 => exact ⟨_, _, _, _, .ref (z.ct c), true, rfl, rfl, fun w hw => hw, same_slt g1.s h2, C.sc, C.si, C.is_, kq F1 H1 _ g1 (.bl _)⟩
  · cases hd
end
end
end DK
/-! DK5 -/
set_option Elab.async false
set_option linter.all false
set_option maxRecDepth 100000
set_option maxHeartbeats 1000000
namespace DK
noncomputable section
open PySem PySem.Spec PyProof.Rows L2
open SlX (Slt SlO slH putS Slot1 SIsi)

inductive Out where
  | nx (env : En) | rt (d : D)
def Post (K : PySem.W.Frag) (z : Zc) (F : Hp) (E : Ends) : Out → Prop
  | .nx env => ∀ F' H' σ', Same F F' → ER K z F' H' σ' env → E.nx σ' H'
  | .rt d => ∀ F' H' v, Same F F' → Grow z.F0 z.H0 F' H' → Rep K z.ct F' v d → E.rt v H'
def tS (K : PySem.W.Frag) (z : Zc) (g : En → Option Out) : TS := fun E σ H => ∃ F env, ER K z F H σ env ∧ ∃ o, g env = some o ∧ Post K z F E o
/-- a target of the slots sl -/
def tG (K : PySem.W.Frag) (z : Zc) (sl : List Nat) (set : D → En → Option En) : TG := fun v σ H Q => ∃ F env d, ER K z F H σ env ∧ Rep K z.ct F v d ∧ ∃ env', set d env = some env' ∧
  ∀ σ', ER K z F H σ' env' → σ'.length = σ.length → (∀ j, j ∉ sl → σ'[j]? = σ[j]?) → Q σ' H
/-- what is walked gives these -/
def Wlk (K : PySem.W.Frag) (z : Zc) (J : It) (ds : List D) (F : Hp) : Prop := Walk J ds.length (fun H => Same F H) fun i H x H' => ∀ F1, Same F F1 → Same F1 H → ∃ F2 d, Grow F1 H F2 H' ∧ ds[i]? = some d ∧ Rep K z.ct F2 x d
def tI (K : PySem.W.Frag) (z : Zc) (src : En → Option (List D)) : TI := fun σ H R => ∃ F env, ER K z F H σ env ∧ ∃ ds, src env = some ds ∧ ∀ F' H' J, Grow F H F' H' → Wlk K z J ds F' → R J H'
theorem pi_imp {X : Cx} {tg e : Expr} {t t' : TI} (h : PI X tg e t) (w : ∀ σ H Q, t' σ H Q → t σ H Q) : PI X tg e t' := ⟨fun pins s σ H R I q => h.run pins s σ H R I (w _ _ _ q)⟩
theorem pg_imp {X : Cx} {tg : Expr} {t t' : TG} (h : PG X tg t) (w : ∀ v σ H Q, t' v σ H Q → t v σ H Q) : PG X tg t' := ⟨fun pins s σ H v u Q I r q => h.run pins s σ H v u Q I r (w _ _ _ _ q)⟩

/-! ### the trees' statements -/
def iRet (f : En → Option D) (env : En) : Option Out := bnd (f env) fun d => some (.rt d)
def iSet (i : Nat) (f : En → Option D) (env : En) : Option Out := bnd (f env) fun d => some (.nx (stR d env i))
def iOwn (i : Nat) (f : En → Option (List D)) (env : En) : Option Out := bnd (f env) fun ds => some (.nx (stR (.own ds) env i))
def iDrop (f : En → Option D) (env : En) : Option Out := bnd (f env) fun _ => some (.nx env)
def iSeq (f g : En → Option Out) (env : En) : Option Out := bnd (f env) fun o => match o with | .nx e => g e | .rt d => some (.rt d)
def iNil (env : En) : Option Out := some (.nx env)
def iIf (c : En → Option Bool) (f g : En → Option Out) (env : En) : Option Out := bnd (c env) fun b => iteR b (f env) (g env)
def iFrz (i : Nat) (f : En → Option Out) (env : En) : Option Out := match gqR env i with
  | some (.own ds) => f (stR (.lst ds) env i)
  | some (.ownD kvs) => f (stR (.dct kvs) env i)
  | _ => none
def iNo (_ : En) : Option Out := none
def whD (c : En → Option Bool) (f : En → Option Out) : Nat → En → Option Out
  | 0, _ => none
  | n + 1, env => bnd (c env) fun b => if b then bnd (f env) fun o => match o with | .nx e => whD c f n e | .rt d => some (.rt d) else some (.nx env)
def lpD (set : D → En → Option En) (f : En → Option Out) (ds : List D) : En → Option Out := @List.rec D (fun _ => En → Option Out) (fun env => some (.nx env)) (fun d _ ih env => bnd (set d env) fun e => bnd (f e) fun o => match o with | .nx e' => ih e' | .rt d => some (.rt d)) ds
def iFor (src : En → Option (List D)) (set : D → En → Option En) (f : En → Option Out) (env : En) : Option Out := bnd (src env) fun ds => lpD set f ds env
def gNm (i : Nat) (d : D) (env : En) : Option En := some (stR d env i)
def setAll : List Nat → List D → En → Option En
  | [], [], env => some env
  | i :: is, d :: ds, env => setAll is ds (stR d env i)
  | _, _, _ => none
def gTp (is : List Nat) (d : D) (env : En) : Option En := match d with
  | .tup ds => setAll is ds env
  | _ => none
def iAsg (f : En → Option D) (set : D → En → Option En) (env : En) : Option Out := bnd (f env) fun d => bnd (set d env) fun e => some (.nx e)
def iAug (o : D → D → Option D) (i : Nat) (f : En → Option D) (env : En) : Option Out := bnd (vget i env) fun a => bnd (f env) fun b => bnd (o a b) fun d => some (.nx (stR d env i))
def iApp (i : Nat) (f : En → Option D) (env : En) : Option Out := bnd (f env) fun d => match gqR env i with
  | some (.own ds) => if smR ds 99999 then some (.nx (stR (.own (apR ds [d])) env i)) else none
  | _ => none
def wipeE (env : En) : List Nat → En
  | [] => env
  | i :: is => stR .unb (wipeE env is) i
def lcL (set : D → En → Option En) (t : En → Option Bool) (f : En → Option D) (env : En) (ds : List D) : Option (List D) := @List.rec D (fun _ => Option (List D)) (some []) (fun d _ ih => bnd (set d env) fun e => bnd (t e) fun b => iteR b (bnd (f e) fun r => bnd ih fun rs => some (r :: rs)) ih) ds
def lcD (src : En → Option (List D)) (sl : List Nat) (set : D → En → Option En) (t : En → Option Bool) (f : En → Option D) (env : En) : Option (List D) := bnd (src env) fun ds => bnd (small ds) fun ds => lcL set t f (wipeE env sl) ds

section
variable {K : PySem.W.Frag} {z : Zc} {F F' H H' : Hp} {σ : L2.St} {env : En}
theorem Post.seq {E : Ends} {o : Out} {F1 : Hp} (s : Same F F1) (p : Post K z F E o) : Post K z F1 E o := by
  cases o with
  | nx e => exact fun F' H' σ' q => p F' H' σ' (s.trans q)
  | rt d => exact fun F' H' v q => p F' H' v (s.trans q)
theorem ER.slots (E : ER K z F H σ env) : Grow z.F0 z.H0 F H := E.gr
theorem set_self {α : Type} {l : List α} {i : Nat} {x : α} (h : l[i]? = some x) : l.set i x = l := by
  refine List.ext_getElem? fun j => ?_
  by_cases hj : i = j
  · subst hj
    rw [List.getElem?_set_self (List.getElem?_eq_some_iff.mp h).1, h]
  · rw [List.getElem?_set_ne hj]
/-- an own object is changed no more -/
theorem ER.drop (E : ER K z F H σ env) {i : Nat} {d : D} {l : Addr} {o : HO} (h : env[i]? = some d) (ho : d.isOwn = true) (hv : σ[i]? = some (some (.ref l))) (h1 : H l = some o) (h2 : F l = none) (h3 : z.H0 l = none) (n1 : ∀ a, o ≠ .own a) (n2 : o ≠ .xd []) :
    Same F (upd F l o) ∧ ER K z (upd F l o) H σ (env.set i .unb) := by
  have s1 : Same F (upd F l o) := same_upd h2
  have s2 : Same (upd F l o) H := fun b o' q => by
    by_cases hb : b = l
    · subst hb
      rw [upd_same] at q
      rw [h1]
      exact q
    · rw [upd_ne hb] at q
      exact E.sub _ _ q
  have gr : Grow z.F0 z.H0 (upd F l o) H := ⟨E.gr.f.trans s1, E.gr.h, s2, fun b o' hb ht hf => by
    rw [upd_ne (ne_of_none hb h3)]
    exact E.gr.n b o' hb ht hf⟩
  have hlt : i < env.length := (List.getElem?_eq_some_iff.mp h).1
  refine ⟨s1, by rw [List.length_set, E.len], gr, fun j d' hd hu => ?_, fun a b d1 e m hab q1 q2 q3 q4 q5 q6 => ?_⟩
  · by_cases hj : i = j
    · subst hj
      rw [List.getElem?_set_self hlt] at hd
      exact absurd (Option.some.inj hd).symm hu
    · rw [List.getElem?_set_ne hj] at hd
      obtain ⟨v, w1, w2⟩ := E.ent j d' hd hu
      refine ⟨v, w1, ?_⟩
      by_cases ho' : d'.isOwn = true
      · obtain ⟨m, o', rfl, e1, e2, e3⟩ := w2.addr ho'
        have hm : m ≠ l := fun q => by
          subst q
          exact E.dis i j _ _ m hj h hd ho ho' hv w1
        cases d' <;> first | (cases ho'; done) | skip
        · obtain ⟨l', xs', e, t1, t2, t3, t4⟩ := w2
          injection e with e
          subst e
          exact ⟨m, xs', rfl, t1, by rw [upd_ne hm]; exact t2, t3, t4.mono s1⟩
        · obtain ⟨l', e, t1, t2, t3⟩ := w2
          injection e with e
          subst e
          exact ⟨m, rfl, t1, by rw [upd_ne hm]; exact t2, t3⟩
        · obtain ⟨a, dx, vs, e, ne, t1, ⟨o2, t2, ho2⟩, t3, t4, t5, t6, t7, t8⟩ := w2
          injection e with e
          subst e
          have hdx : dx ≠ l := ne_of t2 h1 (fun q => by
            rcases ho2 with y | y
            · exact n1 _ (q.symm.trans y)
            · exact n2 (q.symm.trans y))
          exact ⟨m, dx, vs, rfl, ne, t1, ⟨o2, t2, ho2⟩, by rw [upd_ne hm]; exact t3, by rw [upd_ne hdx]; exact t4, t5, t6, t7, fun i d hd => (t8 i d hd).imp id fun ⟨x, y1, y2⟩ => ⟨x, y1, y2.mono s1⟩⟩
      · have ho' : d'.isOwn = false := by simpa using ho'
        exact .of ((w2.rep ho' hu).mono s1)
  · have ne : ∀ {c : Nat} {e : D}, (env.set i .unb)[c]? = some e → e.isOwn = true → i ≠ c := fun {c e} t1 t3 hc => by
      subst hc
      rw [List.getElem?_set_self hlt] at t1
      obtain rfl := Option.some.inj t1
      cases t3
    have na := ne q1 q3
    have nb := ne q2 q4
    rw [List.getElem?_set_ne na] at q1
    rw [List.getElem?_set_ne nb] at q2
    exact E.dis a b d1 e m hab q1 q2 q3 q4 q5 q6
theorem ER.freeze (E : ER K z F H σ env) {i : Nat} {ds : List D} (h : env[i]? = some (.own ds)) : ∃ F', Same F F' ∧ ER K z F' H σ (env.set i (.lst ds)) := by
  obtain ⟨v, hv, l, xs, rfl, h1, h2, h3, h4⟩ := E.ent i _ h (fun q => by cases q)
  obtain ⟨s1, E1⟩ := E.drop h rfl hv h1 h2 h3 (fun _ q => by cases q) (fun q => by cases q)
  refine ⟨_, s1, ?_⟩
  have E2 := E1.set i (v := .ref l) (d := .lst ds) (.lst upd_same (h4.mono s1))
  rw [set_self hv, List.set_set] at E2
  exact E2
theorem ER.freezeD (E : ER K z F H σ env) {i : Nat} {kvs : List (List Int × Int)} (h : env[i]? = some (.ownD kvs)) : ∃ F', Same F F' ∧ ER K z F' H σ (env.set i (.dct kvs)) := by
  obtain ⟨v, hv, l, rfl, h1, h2, h3⟩ := E.ent i _ h (fun q => by cases q)
  obtain ⟨s1, E1⟩ := E.drop h rfl hv h1 h2 h3 (fun _ q => by cases q) (fun q => by cases q)
  refine ⟨_, s1, ?_⟩
  have E2 := E1.set i (v := .ref l) (d := .dct kvs) (.dct upd_same)
  rw [set_self hv, List.set_set] at E2
  exact E2
/-- an own list is changed -/
theorem ER.upd (E : ER K z F H σ env) {i : Nat} {d d' : D} {l : Addr} {o : HO} (h : env[i]? = some d) (ho : d.isOwn = true) (hv : σ[i]? = some (some (.ref l))) (h1 : ∃ o, H l = some o ∧ (∀ a, o ≠ .own a) ∧ o ≠ .xd []) (h2 : F l = none) (h3 : z.H0 l = none)
    (hn : EntV K z F (L2.upd H l o) (.ref l) d') (ho' : d'.isOwn = true) : ER K z F (L2.upd H l o) σ (env.set i d') := by
  obtain ⟨o0, h1, n1, n2⟩ := h1
  have s0 : ∀ {b : Addr} {o' : HO}, F b = some o' → b ≠ l := fun {b o'} q => ne_of_none q h2
  have hlt : i < env.length := (List.getElem?_eq_some_iff.mp h).1
  refine ⟨by rw [List.length_set, E.len], ⟨E.gr.f, fun b o' q => ?_, fun b o' q => ?_, E.gr.n⟩, fun j d1 hd hu => ?_, fun a b d1 e m hab q1 q2 q3 q4 q5 q6 => ?_⟩
  · rw [upd_ne (ne_of_none q h3)]
    exact E.gr.h _ _ q
  · rw [upd_ne (s0 q)]
    exact E.sub _ _ q
  · by_cases hj : i = j
    · subst hj
      rw [List.getElem?_set_self hlt] at hd
      obtain rfl := Option.some.inj hd
      exact ⟨_, hv, hn⟩
    · rw [List.getElem?_set_ne hj] at hd
      obtain ⟨v, w1, w2⟩ := E.ent j d1 hd hu
      refine ⟨v, w1, ?_⟩
      by_cases hoj : d1.isOwn = true
      · obtain ⟨m, o', rfl, e1, e2, e3⟩ := w2.addr hoj
        have hm : m ≠ l := fun q => by
          subst q
          exact E.dis i j _ _ m hj h hd ho hoj hv w1
        cases d1 <;> first | (cases hoj; done) | skip
        · obtain ⟨l', xs', e, t1, t2, t3, t4⟩ := w2
          injection e with e
          subst e
          exact ⟨m, xs', rfl, by rw [upd_ne hm]; exact t1, t2, t3, t4⟩
        · obtain ⟨l', e, t1, t2, t3⟩ := w2
          injection e with e
          subst e
          exact ⟨m, rfl, by rw [upd_ne hm]; exact t1, t2, t3⟩
        · obtain ⟨a, dx, vs, e, ne, t1, ⟨o2, t2, ho2⟩, t3, t4, t5, t6, t7, t8⟩ := w2
          injection e with e
          subst e
          have hdx : dx ≠ l := ne_of t2 h1 (fun q => by
            rcases ho2 with y | y
            · exact n1 _ (q.symm.trans y)
            · exact n2 (q.symm.trans y))
          refine ⟨m, dx, vs, rfl, ne, ?_, ⟨o2, by rw [upd_ne hdx]; exact t2, ho2⟩, t3, t4, t5, t6, t7, t8⟩
          rcases t1 with ⟨y1, y2⟩ | ⟨y1, y2⟩
          · exact .inl ⟨by rw [upd_ne hm]; exact y1, y2⟩
          · exact .inr ⟨by rw [upd_ne hm]; exact y1, by rw [upd_ne hdx]; exact y2⟩
      · have hoj : d1.isOwn = false := by simpa using hoj
        exact .of (w2.rep hoj hu)
  · by_cases ha : i = a
    · subst ha
      rw [List.getElem?_set_ne hab] at q2
      exact E.dis i b d e m hab h q2 ho q4 q5 q6
    · rw [List.getElem?_set_ne ha] at q1
      by_cases hb : i = b
      · subst hb
        exact E.dis a i d1 d m hab q1 h q3 ho q5 q6
      · rw [List.getElem?_set_ne hb] at q2
        exact E.dis a b d1 e m hab q1 q2 q3 q4 q5 q6
end
end
end DK
/-! DK6 -/
set_option Elab.async false
set_option linter.all false
set_option maxRecDepth 100000
set_option maxHeartbeats 1000000
namespace DK
noncomputable section
open PySem PySem.Spec PyProof.Rows L2
open SlX (Slt SlO slH putS Slot1 SIsi)

section
variable {K : PySem.W.Frag} {z : Zc} {F F' H H' : Hp} {σ : L2.St} {env : En}
theorem ER.unset (E : ER K z F H σ env) (i : Nat) : ER K z F H (σ.set i none) (env.set i .unb) := by
  refine ⟨by rw [List.length_set, List.length_set, E.len], E.gr, fun j e he hu => ?_, fun a b d e l hab h1 h2 h3 h4 h5 h6 => ?_⟩
  · by_cases hj : i = j
    · subst hj
      have hlt : i < env.length := by
        have q := (List.getElem?_eq_some_iff.mp he).1
        rwa [List.length_set] at q
      rw [List.getElem?_set_self hlt] at he
      exact absurd (Option.some.inj he).symm hu
    · rw [List.getElem?_set_ne hj] at he
      rw [List.getElem?_set_ne hj]
      exact E.ent j e he hu
  · have ne : ∀ {c : Nat} {e : D}, (env.set i .unb)[c]? = some e → e.isOwn = true → i ≠ c := fun {c e} h1 h3 hc => by
      subst hc
      have hlt : i < env.length := by
        have q := (List.getElem?_eq_some_iff.mp h1).1
        rwa [List.length_set] at q
      rw [List.getElem?_set_self hlt] at h1
      obtain rfl := Option.some.inj h1
      cases h3
    have na := ne h1 h3
    have nb := ne h2 h4
    rw [List.getElem?_set_ne na] at h1 h5
    rw [List.getElem?_set_ne nb] at h2 h6
    exact E.dis a b d e l hab h1 h2 h3 h4 h5 h6
theorem ER.wipe (E : ER K z F H σ env) : ∀ sl : List Nat, ER K z F H (L2.wipe σ sl) (wipeE env sl)
  | [] => E
  | i :: is => by
    show ER K z F H (L2.wipe σ (i :: is)) (stR .unb (wipeE env is) i)
    rw [stR_eq]
    exact (ER.wipe E is).unset i
theorem ER.setR (E : ER K z F H σ env) (i : Nat) {v : V} {d : D} (r : Rep K z.ct F v d) : ER K z F H (σ.set i (some v)) (stR d env i) := by
  rw [stR_eq]
  exact E.set i r
theorem ER.setOwnR (E : ER K z F H σ env) (i : Nat) {l : Addr} {d : D} (r : EntV K z F H (.ref l) d) (hn : ∀ (j : Nat) (e : D), j ≠ i → env[j]? = some e → e.isOwn = true → σ[j]? ≠ some (some (.ref l))) : ER K z F H (σ.set i (some (.ref l))) (stR d env i) := by
  rw [stR_eq]
  exact E.setOwn i r hn
theorem ER.freezeR (E : ER K z F H σ env) {i : Nat} {ds : List D} (h : gqR env i = some (.own ds)) : ∃ F', Same F F' ∧ ER K z F' H σ (stR (.lst ds) env i) := by
  rw [stR_eq]
  exact E.freeze ((gqR_eq env i).symm.trans h)
theorem ER.freezeDR (E : ER K z F H σ env) {i : Nat} {kvs : List (List Int × Int)} (h : gqR env i = some (.ownD kvs)) : ∃ F', Same F F' ∧ ER K z F' H σ (stR (.dct kvs) env i) := by
  rw [stR_eq]
  exact E.freezeD ((gqR_eq env i).symm.trans h)
/-- another object is changed -/
theorem ER.other (E : ER K z F H σ env) {l : Addr} {o0 o : HO} (h1 : H l = some o0) (n1 : ∀ a, o0 ≠ .own a) (n2 : o0 ≠ .xd []) (h2 : F l = none) (h3 : z.H0 l = none) (hn : ∀ (j : Nat) (e : D), env[j]? = some e → e.isOwn = true → σ[j]? ≠ some (some (.ref l))) : ER K z F (L2.upd H l o) σ env := by
  have s0 : ∀ {b : Addr} {o' : HO}, F b = some o' → b ≠ l := fun {b o'} q => ne_of_none q h2
  refine ⟨E.len, ⟨E.gr.f, fun b o' q => ?_, fun b o' q => ?_, E.gr.n⟩, fun j d1 hd hu => ?_, E.dis⟩
  · rw [upd_ne (ne_of_none q h3)]
    exact E.gr.h _ _ q
  · rw [upd_ne (s0 q)]
    exact E.sub _ _ q
  · obtain ⟨v, w1, w2⟩ := E.ent j d1 hd hu
    refine ⟨v, w1, ?_⟩
    by_cases hoj : d1.isOwn = true
    · obtain ⟨m, o', rfl, e1, e2, e3⟩ := w2.addr hoj
      have hm : m ≠ l := fun q => by
        subst q
        exact hn j d1 hd hoj w1
      cases d1 <;> first | (cases hoj; done) | skip
      · obtain ⟨l', xs', e, t1, t2, t3, t4⟩ := w2
        injection e with e
        subst e
        exact ⟨m, xs', rfl, by rw [upd_ne hm]; exact t1, t2, t3, t4⟩
      · obtain ⟨l', e, t1, t2, t3⟩ := w2
        injection e with e
        subst e
        exact ⟨m, rfl, by rw [upd_ne hm]; exact t1, t2, t3⟩
      · obtain ⟨a, dx, vs, e, ne, t1, ⟨o2, t2, ho2⟩, t3, t4, t5, t6, t7, t8⟩ := w2
        injection e with e
        subst e
        have hdx : dx ≠ l := ne_of t2 h1 (fun q => by
          rcases ho2 with y | y
          · exact n1 _ (q.symm.trans y)
          · exact n2 (q.symm.trans y))
        refine ⟨m, dx, vs, rfl, ne, ?_, ⟨o2, by rw [upd_ne hdx]; exact t2, ho2⟩, t3, t4, t5, t6, t7, t8⟩
        rcases t1 with ⟨y1, y2⟩ | ⟨y1, y2⟩
        · exact .inl ⟨by rw [upd_ne hm]; exact y1, y2⟩
        · exact .inr ⟨by rw [upd_ne hm]; exact y1, by rw [upd_ne hdx]; exact y2⟩
    · have hoj : d1.isOwn = false := by simpa using hoj
      exact .of (w2.rep hoj hu)
end

section
variable {X : Cx} {z : Zc} {f g h : En → Option D} {q r : En → Option Bool} {ag : En → Option (List D)} {i1 i2 : En → Option Out} {e a b c tg iter : Expr} {es : List Expr} {st : Stmt} {ss s1 s2 : List Stmt} {pos : Pos} {k : Nat}
/-! ### statements -/
theorem s_ret (he : PE X e (tD X.K z f)) : PS X (.Return (some e) pos) (tS X.K z (iRet f)) := ps_imp (ps_ret he) fun E σ H ⟨F, env, R, o, ho, p⟩ => by
  obtain ⟨d, h1, h2⟩ := bnd_some ho
  obtain rfl := Option.some.inj h2
  exact ⟨F, env, R, d, h1, fun F1 H1 v g1 r1 => p F1 H1 v g1.f (R.gr.trans g1) r1⟩
theorem s_set (i : Nat) {x : Str} {pos' : Pos} (hN : X.N.Nodup) (hx : Loc X.env.scope x) (he : PE X e (tD X.K z f)) (hi : X.N[i]? = some x := by rfl) (hs : swapsWith e (some (.Name x pos')) pos.line X.env = pure false := by rfl) (hf : X.fn x = true ∨ X.env.scope.names.lookup x = some .local := by first | exact .inl rfl | exact .inr rfl) :
    PS X (.Assign [.Name x pos'] e pos) (tS X.K z (iSet i f)) := ps_imp (ps_set hN hi hx he hs hf) fun E σ H ⟨F, env, R, o, ho, p⟩ => by
  obtain ⟨d, h1, h2⟩ := bnd_some ho
  obtain rfl := Option.some.inj h2
  exact ⟨F, env, R, d, h1, fun F1 H1 v g1 r1 => p F1 H1 _ g1.f ((R.grow g1).setR i r1)⟩
theorem tF_own (i : Nat) {fl : En → Option (List D)} : ∀ (E : Ends) σ H, tS X.K z (iOwn i fl) E σ H → tF X.K z fl σ H fun x H1 => gName i x σ H1 E.nx := fun E σ H ⟨F, env, R, o, ho, p⟩ => by
  obtain ⟨d, h1, h2⟩ := bnd_some ho
  obtain rfl := Option.some.inj h2
  exact ⟨F, env, R, d, h1, fun F1 H1 v xs g1 np hp nf r1 => p F1 H1 _ g1.f ((R.grow g1).setOwnR i ⟨v, xs, rfl, hp, nf, R.gr.h.free np, r1⟩ fun j e hj he ho => R.fresh np j e he ho)⟩
theorem s_own (i : Nat) {x : Str} {pos' : Pos} {fl : En → Option (List D)} (hN : X.N.Nodup) (hx : Loc X.env.scope x) (he : PE X e (tF X.K z fl)) (hi : X.N[i]? = some x := by rfl) (hs : swapsWith e (some (.Name x pos')) pos.line X.env = pure false := by rfl) (hf : X.fn x = true ∨ X.env.scope.names.lookup x = some .local := by first | exact .inl rfl | exact .inr rfl) :
    PS X (.Assign [.Name x pos'] e pos) (tS X.K z (iOwn i fl)) := ps_imp (ps_set hN hi hx he hs hf) (tF_own i)
theorem s_drop (he : PE X e (tD X.K z f)) (hs : swapsWith e none pos.line X.env = pure false := by rfl) : PS X (.Expr e pos) (tS X.K z (iDrop f)) := ps_imp (ps_expr he hs) fun E σ H ⟨F, env, R, o, ho, p⟩ => by
  obtain ⟨d, h1, h2⟩ := bnd_some ho
  obtain rfl := Option.some.inj h2
  exact ⟨F, env, R, d, h1, fun F1 H1 v g1 r1 => p F1 H1 _ g1.f (R.grow g1)⟩
theorem s_no : PS X st (tS X.K z iNo) := ps_imp ps_never fun E σ H ⟨F, env, R, o, ho, p⟩ => by cases ho
theorem ss_no : PSs X ss (tS X.K z iNo) := ⟨fun pins s σ H E I ⟨F, env, R, o, ho, p⟩ => by cases ho⟩
theorem ss_nil : PSs X [] (tS X.K z iNil) := pss_imp pss_nil fun E σ H ⟨F, env, R, o, ho, p⟩ => by
  obtain rfl := Option.some.inj ho
  exact p F H σ (.refl F) R
theorem ss_one (h : PS X st (tS X.K z i1)) : PSs X [st] (tS X.K z i1) := pss_one h
theorem ss_cons (h1 : PS X st (tS X.K z i1)) (h2 : PSs X ss (tS X.K z i2)) : PSs X (st :: ss) (tS X.K z (iSeq i1 i2)) := pss_imp (pss_cons h1 h2) fun E σ H ⟨F, env, R, o, ho, p⟩ => by
  obtain ⟨o1, h1, ho⟩ := bnd_some ho
  refine ⟨F, env, R, o1, h1, ?_⟩
  cases o1 with
  | nx e => exact fun F' H' σ' s R' => ⟨F', e, R', o, ho, p.seq s⟩
  | rt d =>
    obtain rfl := Option.some.inj ho
    exact p
theorem s_if (hc : PT X c (tQ X.K z q)) (h1 : PSs X s1 (tS X.K z i1)) (h2 : PSs X s2 (tS X.K z i2)) : PS X (.If c s1 s2 pos) (tS X.K z (iIf q i1 i2)) := ps_imp (ps_if hc h1 h2) fun E σ H ⟨F, env, R, o, ho, p⟩ => by
  obtain ⟨b, h1, ho⟩ := bnd_some ho
  refine ⟨F, env, R, b, h1, fun F1 H1 g1 => ?_⟩
  cases b with
  | true => exact iteT ⟨F1, env, R.grow g1, o, ho, p.seq g1.f⟩
  | false => exact iteF ⟨F1, env, R.grow g1, o, ho, p.seq g1.f⟩
theorem frz_tS (i : Nat) : ∀ (E : Ends) σ H, tS X.K z (iFrz i i1) E σ H → tS X.K z i1 E σ H := fun E σ H ⟨F, env, R, o, ho, p⟩ => by
  unfold iFrz at ho
  split at ho
  · next ds h =>
    obtain ⟨F1, s1, R1⟩ := R.freezeR h
    exact ⟨F1, _, R1, o, ho, p.seq s1⟩
  · next kvs h =>
    obtain ⟨F1, s1, R1⟩ := R.freezeDR h
    exact ⟨F1, _, R1, o, ho, p.seq s1⟩
  · cases ho
theorem s_frz (i : Nat) (h : PS X st (tS X.K z i1)) : PS X st (tS X.K z (iFrz i i1)) := ps_imp h (frz_tS i)
theorem ss_frz (i : Nat) (h : PSs X ss (tS X.K z i1)) : PSs X ss (tS X.K z (iFrz i i1)) := pss_imp h (frz_tS i)
def addI : D → D → Option D
  | .int i, .int j => some (.int (i + j))
  | _, _ => none
theorem s_aug (i : Nat) {x : Str} {pos' : Pos} (hN : X.N.Nodup) (hx : Loc X.env.scope x) (he : PE X e (tD X.K z f)) (hi : X.N[i]? = some x := by rfl) (hf : X.fn x = true ∨ X.env.scope.names.lookup x = some .local := by first | exact .inl rfl | exact .inr rfl) :
    PS X (.AugAssign (.Name x pos') .Add e pos) (tS X.K z (iAug addI i f)) := ps_imp (ps_aug hN hi hx he ip_add hf) fun E σ H ⟨F, env, R, o, ho, p⟩ => by
  obtain ⟨d, h1, ho⟩ := bnd_some ho
  obtain ⟨d2, h2, ho⟩ := bnd_some ho
  obtain ⟨d3, h3, ho⟩ := bnd_some ho
  obtain rfl := Option.some.inj ho
  obtain ⟨d0, h4, h5⟩ := bnd_some h1
  obtain ⟨rfl, h6, h7⟩ := pl_some h5
  obtain ⟨v, h8, h9⟩ := R.ent i d0 ((gqR_eq env i).symm.trans h4) h7
  refine ⟨v, h8, F, env, R, d2, h2, fun F1 H1 y g1 r1 => ?_⟩
  have rv := (h9.rep h6 h7).mono g1.f
  cases d0 <;> cases d2 <;> first | (cases h3; done) | skip
  obtain rfl := Option.some.inj h3
  exact ⟨_, _, rep_int rv, rep_int r1, p F1 H1 _ g1.f ((R.grow g1).setR i (.int _))⟩
theorem s_app (i : Nat) (he : PE X e (tBM X.K "list" rAppend (tVar i) (tCons (tD X.K z f) tNil))) (hs : swapsWith e none pos.line X.env = pure false := by rfl) : PS X (.Expr e pos) (tS X.K z (iApp i f)) := by
  refine ps_imp (ps_expr he hs) fun E σ H ⟨F, env, R, o, ho, p⟩ => ?_
  obtain ⟨d, h1, ho⟩ := bnd_some ho
  split at ho
  · next ds h2 =>
    have h2 := (gqR_eq env i).symm.trans h2
    split at ho
    · next hlt =>
      have hlt := Nat.lt_succ_of_le (smR_le _ _ hlt)
      rw [stR_eq, apR_eq] at ho
      obtain rfl := Option.some.inj ho
      obtain ⟨v, hv, hent⟩ := R.ent i _ h2 (fun q => by cases q)
      obtain ⟨l, xs, rfl, h3, h4, h5, h6⟩ := id hent
      refine ⟨.ref l, hv, .inl ⟨rfl, xs, .inl (.inl h3)⟩, F, env, R, d, h1, fun F1 H1 y g1 r1 => ?_⟩
      have h3' := g1.h _ _ h3
      have h4' := g1.n _ _ h3 (fun _ z => by cases z) h4
      have hz : xs.length < sizeLine := by
        rw [h6.length]
        exact Nat.lt_of_lt_of_le hlt (by decide)
      refine ⟨l, xs, y, rfl, rfl, h3', hz, ?_⟩
      refine p F1 _ σ g1.f ((R.grow g1).upd h2 rfl hv ⟨_, h3', fun _ q => (by cases q), fun q => (by cases q)⟩ h4' h5 ?_ rfl)
      exact ⟨l, _, rfl, upd_same, h4', h5, (h6.mono g1.f).append (.cons r1 .nil)⟩
    · cases ho
  · cases ho
/-! ### targets -/
theorem g_name (i : Nat) {x : Str} (hN : X.N.Nodup) (hx : Loc X.env.scope x) (hi : X.N[i]? = some x := by rfl) (hf : X.fn x = true ∨ X.env.scope.names.lookup x = some .local := by first | exact .inl rfl | exact .inr rfl) : PG X (.Name x pos) (tG X.K z [i] (gNm i)) :=
  pg_imp (pg_name hN hi hx hf) fun v σ H Q ⟨F, env, d, R, rv, env', hs, k⟩ => by
    obtain rfl := Option.some.inj hs
    exact k _ (R.setR i rv) (by rw [List.length_set]) fun j hj => List.getElem?_set_ne (fun q => hj (List.mem_singleton.mpr q.symm))
def tGs (K : PySem.W.Frag) (z : Zc) (is : List Nat) : TGs := fun vs σ H Q => ∃ F env ds, ER K z F H σ env ∧ Reps K z.ct F vs ds ∧ ∃ env', setAll is ds env = some env' ∧ ∀ σ', ER K z F H σ' env' → σ'.length = σ.length → (∀ j, j ∉ is → σ'[j]? = σ[j]?) → Q σ' H
theorem pgs_imp {X : Cx} {tg : List Expr} {t t' : TGs} (h : PGs X tg t) (w : ∀ v σ H Q, t' v σ H Q → t v σ H Q) : PGs X tg t' := ⟨fun pins s σ H v u Q I r q => h.run pins s σ H v u Q I r (w _ _ _ _ q)⟩
theorem gs_nil : PGs X [] (tGs X.K z []) := pgs_imp pgs_nil fun vs σ H Q ⟨F, env, ds, R, rv, env', hs, k⟩ => by
  cases rv with
  | nil =>
    obtain rfl := Option.some.inj hs
    exact ⟨rfl, k _ R rfl fun _ _ => rfl⟩
  | cons _ _ => cases hs
theorem gs_cons (i : Nat) {is : List Nat} {x : Str} (hN : X.N.Nodup) (hx : Loc X.env.scope x) (hr : PGs X es (tGs X.K z is)) (hi : X.N[i]? = some x := by rfl) (hf : X.fn x = true ∨ X.env.scope.names.lookup x = some .local := by first | exact .inl rfl | exact .inr rfl)
    (hs : (assignEach (.Name x pos :: es) X.env).map (·.2) = assign (.Name x pos) X.env :: (assignEach es X.env).map (·.2) := by rfl) : PGs X (.Name x pos :: es) (tGs X.K z (i :: is)) :=
  pgs_imp (pgs_cons (pg_name hN hi hx hf) hr hs) fun vs σ H Q ⟨F, env, ds, R, rv, env', hs, k⟩ => by
    cases rv with
    | nil => cases hs
    | cons r1 r2 =>
      exact ⟨_, _, rfl, F, _, _, R.setR i r1, r2, env', hs, fun σ' R' hl hj => k σ' R' (by rw [hl, List.length_set]) fun j hn => by
        rw [hj j fun q => hn (List.mem_cons_of_mem _ q)]
        exact List.getElem?_set_ne (fun q => hn (by rw [q]; exact List.mem_cons_self))⟩
theorem g_tup {is : List Nat} {j : Nat} (hc : X.calm = true) (hr : PGs X es (tGs X.K z is)) (hn : (assignEach es X.env).length = is.length := by rfl) (hst : (assignEach es X.env).findIdx? (·.1) = none := by rfl) : PG X (.Tuple es j pos) (tG X.K z is (gTp is)) :=
  pg_imp (pg_tup hc hr hn hst) fun v σ H Q ⟨F, env, d, R, rv, env', hs, k⟩ => by
    cases d <;> first | (cases hs; done) | skip
    cases rv with
    | tup h1 h2 =>
      have hl : ∀ (is : List Nat) (ds : List D) (env env' : En), setAll is ds env = some env' → ds.length = is.length := fun is => by
        induction is with
        | nil =>
          intro ds env env' h
          cases ds with
          | nil => rfl
          | cons => cases h
        | cons i is ih =>
          intro ds env env' h
          cases ds with
          | nil => cases h
          | cons d ds => exact congrArg (· + 1) (ih ds _ _ h)
      exact ⟨_, _, rfl, .inl (.inl (R.sub _ _ h1)), by rw [h2.length]; exact hl _ _ _ _ hs, F, env, _, R, h2, env', hs, k⟩
theorem s_asg {sl : List Nat} {set : D → En → Option En} (he : PE X e (tD X.K z f)) (hg : PG X tg (tG X.K z sl set)) (hs : swapsWithSole [tg] e pos.line X.env = pure false := by rfl) (hw : swappedStores [tg] e X.env = pure none := by rfl) {st : Stmt}
    (hp : PS X st (tAsg (tD X.K z f) (tG X.K z sl set))) : PS X st (tS X.K z (iAsg f set)) := ps_imp hp fun E σ H ⟨F, env, R, o, ho, p⟩ => by
  obtain ⟨d, h1, ho⟩ := bnd_some ho
  obtain ⟨env', h2, ho⟩ := bnd_some ho
  obtain rfl := Option.some.inj ho
  exact ⟨F, env, R, d, h1, fun F1 H1 x g1 r1 => ⟨F1, env, d, R.grow g1, r1, env', h2, fun σ' R' _ _ => p F1 H1 σ' g1.f R'⟩⟩
/-! ### loops -/
theorem s_for {src : En → Option (List D)} {sl : List Nat} {set : D → En → Option En} (hp : PassesOwn (model X.prog X.w) X.A X.env X.xe) (hc : X.calm = true) (hi : PI X tg iter (tI X.K z src)) (hg : PG X tg (tG X.K z sl set)) (hb : PSs X ss (tS X.K z i1))
    (hs : ∀ x, foldedSetIterable iter X.env x = pure x := by intro _; rfl) : PS X (.For tg iter ss [] pos) (tS X.K z (iFor src set i1)) := ps_imp (ps_for hp hc hi hg hb hs) fun E σ H ⟨F, env, R, o, ho, p⟩ => by
  obtain ⟨ds, h1, ho⟩ := bnd_some ho
  refine ⟨F, env, R, ds, h1, fun F1 H1 J g1 W => ?_⟩
  refine for_it W (fun i σ H => ∃ F2 env2, ER X.K z F2 H σ env2 ∧ Same F1 F2 ∧ lpD set i1 (ds.drop i) env2 = some o) ⟨F1, env, R.grow g1, .refl _, ho⟩ (fun i σ H hi ⟨F2, env2, R2, s2, _⟩ => s2.trans R2.sub) (fun i x σ H H' hi ⟨F2, env2, R2, s2, h2⟩ y => ?_) (fun σ H ⟨F2, env2, R2, s2, h2⟩ => ?_)
  · obtain ⟨F3, d, g3, hd, rd⟩ := y F2 s2 R2.sub
    have hlt : i < ds.length := hi
    rw [List.drop_eq_getElem_cons hlt] at h2
    have e1 : ds[i] = d := by
      rw [List.getElem?_eq_getElem hlt] at hd
      exact Option.some.inj hd
    rw [e1] at h2
    obtain ⟨env3, h3, h2⟩ := bnd_some h2
    obtain ⟨o3, h4, h2⟩ := bnd_some h2
    refine ⟨F3, env2, d, R2.grow g3, rd, env3, h3, fun σ' R' _ _ => ⟨F3, env3, R', o3, h4, ?_⟩⟩
    cases o3 with
    | nx e => exact fun F' H' σ' s R'' => ⟨F', e, R'', (s2.trans g3.f).trans s, h2⟩
    | rt d =>
      obtain rfl := Option.some.inj h2
      exact fun F' H' v s g r => p F' H' v (g1.f.trans ((s2.trans g3.f).trans s)) g r
  · rw [List.drop_length] at h2
    obtain rfl := Option.some.inj h2
    exact p F2 H σ (g1.f.trans s2) R2
theorem s_while (n : Nat) (hp : PassesOwn (model X.prog X.w) X.A X.env X.xe) (hc : PT X c (tQ X.K z q)) (hb : PSs X ss (tS X.K z i1)) : PS X (.While c ss [] pos) (tS X.K z (whD q i1 n)) := ps_imp (ps_while hp hc hb) fun E σ H ⟨F, env, R, o, ho, p⟩ => by
  refine ⟨fun m σ H => ∃ F2 env2, ER X.K z F2 H σ env2 ∧ Same F F2 ∧ whD q i1 m env2 = some o, ⟨n, F, env, R, .refl _, ho⟩, fun m σ H ⟨F2, env2, R2, s2, h2⟩ => ?_⟩
  cases m with
  | zero => cases h2
  | succ m =>
    obtain ⟨b, h3, h2⟩ := bnd_some h2
    refine ⟨F2, env2, R2, b, h3, fun F3 H3 g3 => ?_⟩
    cases b with
    | false =>
      obtain rfl := Option.some.inj h2
      exact iteF (p F3 H3 σ (s2.trans g3.f) (R2.grow g3))
    | true =>
      have h2 : (bnd (i1 env2) fun o => match o with | .nx e => whD q i1 m e | .rt d => some (.rt d)) = some o := h2
      obtain ⟨o4, h4, h2⟩ := bnd_some h2
      refine iteT ⟨fun σ' H' => ∃ F2 env2, ER X.K z F2 H' σ' env2 ∧ Same F F2 ∧ whD q i1 m env2 = some o, fun σ' H' w => ⟨m, Nat.lt_succ_self m, w⟩, F3, env2, R2.grow g3, o4, h4, ?_⟩
      cases o4 with
      | nx e => exact fun F' H' σ' s R' => ⟨F', e, R', (s2.trans g3.f).trans s, h2⟩
      | rt d =>
        obtain rfl := Option.some.inj h2
        exact fun F' H' v s g r => p F' H' v ((s2.trans g3.f).trans s) g r
end
end
end DK
/-! DK7 -/
set_option Elab.async false
set_option linter.all false
set_option maxRecDepth 100000
set_option maxHeartbeats 1000000
namespace DK
noncomputable section
open PySem PySem.Spec PyProof.Rows L2
open SlX (Slt SlO slH putS Slot1 SIsi)

def lstOf : D → Option (List D)
  | .lst ds => some ds
  | _ => none
def tupOf : D → Option (List D)
  | .tup ds => some ds
  | _ => none
def strOf : D → Option (List D)
  | .str l => some (l.map fun c => .str [c])
  | _ => none
def upI (lo : Int) : Nat → List D
  | 0 => []
  | n + 1 => .int lo :: upI (lo + 1) n
def dnI (hi : Int) : Nat → List D
  | 0 => []
  | n + 1 => .int hi :: dnI (hi - 1) n
def rg1 : List D → Option (List D)
  | [.int j] => if inI (2 ^ 61) j then some (upI 0 j.toNat) else none
  | _ => none
def rg2 : List D → Option (List D)
  | [.int i, .int j] => if inI (2 ^ 61) i && inI (2 ^ 61) j then some (upI i (j - i).toNat) else none
  | _ => none
def rg3 : List D → Option (List D)
  | [.int i, .int j, .int (.negSucc 0)] => if inI (2 ^ 61) i && inI (2 ^ 61) j then some (dnI i (i - j).toNat) else none
  | _ => none
def pairD : List D → List D → List D
  | x :: xs, y :: ys => .tup [x, y] :: pairD xs ys
  | _, _ => []
def zipOf : List D → Option (List D)
  | [.lst xs, .lst ys] => some (pairD xs ys)
  | [.tup xs, .tup ys] => some (pairD xs ys)
  | _ => none
def numD (i : Nat) : List D → List D
  | [] => []
  | x :: xs => .tup [.int i, x] :: numD (i + 1) xs
def enumOf : List D → Option (List D)
  | [.lst xs] => some (numD 0 xs)
  | _ => none
theorem upI_at : ∀ (n : Nat) (lo : Int) (i : Nat), i < n → (upI lo n)[i]? = some (.int (lo + i))
  | 0, _, _, h => absurd h (Nat.not_lt_zero _)
  | n + 1, lo, 0, _ => by simp [upI]
  | n + 1, lo, i + 1, h => by
    rw [upI, List.getElem?_cons_succ, upI_at n (lo + 1) i (Nat.lt_of_succ_lt_succ h)]
    congr 2
    omega
theorem upI_len : ∀ (n : Nat) (lo : Int), (upI lo n).length = n
  | 0, _ => rfl
  | n + 1, lo => congrArg (· + 1) (upI_len n (lo + 1))
theorem dnI_at : ∀ (n : Nat) (lo : Int) (i : Nat), i < n → (dnI lo n)[i]? = some (.int (lo + (i : Int) * -1))
  | 0, _, _, h => absurd h (Nat.not_lt_zero _)
  | n + 1, lo, 0, _ => by simp [dnI]
  | n + 1, lo, i + 1, h => by
    rw [dnI, List.getElem?_cons_succ, dnI_at n (lo - 1) i (Nat.lt_of_succ_lt_succ h)]
    congr 2
    omega
theorem dnI_len : ∀ (n : Nat) (lo : Int), (dnI lo n).length = n
  | 0, _ => rfl
  | n + 1, lo => congrArg (· + 1) (dnI_len n (lo - 1))
theorem pairD_len : ∀ xs ys : List D, (pairD xs ys).length = min xs.length ys.length
  | [], [] => rfl
  | [], _ :: _ => by simp [pairD]
  | _ :: _, [] => by simp [pairD]
  | x :: xs, y :: ys => by
    rw [pairD, List.length_cons, pairD_len xs ys, List.length_cons, List.length_cons]
    omega
theorem pairD_at : ∀ (xs ys : List D) (i : Nat) (x y : D), xs[i]? = some x → ys[i]? = some y → (pairD xs ys)[i]? = some (.tup [x, y])
  | [], _, _, _, _, h, _ => by simp at h
  | _ :: _, [], _, _, _, _, h => by simp at h
  | a :: xs, b :: ys, 0, x, y, h1, h2 => by
    simp at h1 h2
    subst h1
    subst h2
    rfl
  | a :: xs, b :: ys, i + 1, x, y, h1, h2 => by
    rw [pairD, List.getElem?_cons_succ]
    exact pairD_at xs ys i x y (by simpa using h1) (by simpa using h2)
theorem numD_len : ∀ (i : Nat) (xs : List D), (numD i xs).length = xs.length
  | _, [] => rfl
  | i, x :: xs => congrArg (· + 1) (numD_len (i + 1) xs)
theorem numD_at : ∀ (xs : List D) (k i : Nat) (x : D), xs[i]? = some x → (numD k xs)[i]? = some (.tup [.int (k + i : Nat), x])
  | [], _, _, _, h => by simp at h
  | a :: xs, k, 0, x, h => by
    simp at h
    subst h
    rfl
  | a :: xs, k, i + 1, x, h => by
    rw [numD, List.getElem?_cons_succ, numD_at xs (k + 1) i x (by simpa using h), Nat.add_right_comm]
    rfl

section
variable {X : Cx} {z : Zc} {f g h : En → Option D} {q r : En → Option Bool} {ag : En → Option (List D)} {e a b c tg iter : Expr} {es : List Expr} {pos : Pos} {k : Nat}
theorem wlk_pair {K : PySem.W.Frag} {J : It} {xs ys : Nat → Option V} {ds : List D} {F : Hp} (W : Walk J ds.length (fun H => Same F H) (YPair xs ys)) (h : ∀ (i : Nat) (x y : V), i < ds.length → xs i = some x → ys i = some y → ∃ d e, ds[i]? = some (.tup [d, e]) ∧ Rep K z.ct F x d ∧ Rep K z.ct F y e) : Wlk K z J ds F :=
  W.mono (fun H q => q) fun i H x H' hi hF y F1 s1 s2 => by
    obtain ⟨T, x1, y1, rfl, nT, rfl, e1, e2⟩ := y
    obtain ⟨d, e, h1, h2, h3⟩ := h i x1 y1 hi e1 e2
    have g := Grow.new (o := .tup [x1, y1]) s2 nT
    exact ⟨_, _, g, h1, .tup upd_same (.cons (h2.mono (s1.trans g.f)) (.cons (h3.mono (s1.trans g.f)) .nil))⟩
theorem p_list (he : PE X e (tD X.K z f)) : PI X tg e (tI X.K z (uF lstOf f)) := pi_imp (pi_list he) fun σ H R ⟨F, env, E, ds, hd, k⟩ => by
  obtain ⟨d, h1, hd⟩ := bnd_some hd
  refine ⟨F, env, E, d, h1, fun F1 H1 x g1 r1 => ?_⟩
  cases d <;> first | (cases hd; done) | skip
  obtain rfl := Option.some.inj hd
  cases r1 with
  | lst h2 h3 =>
    refine ⟨_, rfl, ⟨_, .inl (.inl (g1.s _ _ h2))⟩, k F1 H1 _ g1 ?_⟩
    unfold Wlk
    rw [← h3.length]
    refine walk_list.mono (fun H q => .inl (.inl (q _ _ h2))) fun i H x H' hi hF y F2 s1 s2 => ?_
    obtain ⟨rfl, y⟩ := y
    obtain ⟨d, h4, h5⟩ := h3.getV y
    exact ⟨F2, d, .refl s2, h4, h5.mono s1⟩
theorem p_tup (he : PE X e (tD X.K z f)) : PI X tg e (tI X.K z (uF tupOf f)) := pi_imp (pi_tup he) fun σ H R ⟨F, env, E, ds, hd, k⟩ => by
  obtain ⟨d, h1, hd⟩ := bnd_some hd
  refine ⟨F, env, E, d, h1, fun F1 H1 x g1 r1 => ?_⟩
  cases d <;> first | (cases hd; done) | skip
  obtain rfl := Option.some.inj hd
  cases r1 with
  | tup h2 h3 =>
    refine ⟨_, rfl, ⟨_, .inl (.inl (g1.s _ _ h2))⟩, k F1 H1 _ g1 ?_⟩
    unfold Wlk
    rw [← h3.length]
    refine walk_tup.mono (fun H q => .inl (.inl (q _ _ h2))) fun i H x H' hi hF y F2 s1 s2 => ?_
    obtain ⟨rfl, y⟩ := y
    obtain ⟨d, h4, h5⟩ := h3.getV y
    exact ⟨F2, d, .refl s2, h4, h5.mono s1⟩
theorem p_str (he : PE X e (tD X.K z f)) : PI X tg e (tI X.K z (uF strOf f)) := pi_imp (pi_str he) fun σ H R ⟨F, env, E, ds, hd, k⟩ => by
  obtain ⟨d, h1, hd⟩ := bnd_some hd
  refine ⟨F, env, E, d, h1, fun F1 H1 x g1 r1 => ?_⟩
  cases d <;> first | (cases hd; done) | skip
  obtain rfl := Option.some.inj hd
  refine ⟨_, rep_str r1, k F1 H1 _ g1 ?_⟩
  unfold Wlk
  rw [List.length_map]
  refine walk_str.mono (fun H q => trivial) fun i H x H' hi hF y F2 s1 s2 => ?_
  obtain ⟨rfl, c, y, rfl⟩ := y
  refine ⟨F2, .str [c], .refl s2, ?_, .str [c]⟩
  have y : (List.toArray _)[i]? = some c := y
  rw [List.getElem?_toArray] at y
  rw [List.getElem?_map, y]
  rfl
theorem inI62 {i : Int} (h : inI (2 ^ 61) i = true) : -(2 ^ 62) ≤ i ∧ i < 2 ^ 62 := by
  have q := inI_lt h
  have e : ((2 ^ 61 : Nat) : Int) = 2305843009213693952 := rfl
  have e2 : (2 : Int) ^ 62 = 4611686018427387904 := rfl
  rw [e] at q
  rw [e2]
  exact ⟨by omega, by omega⟩
theorem p_range1 {p : Pos} (hm : X.mg "range" = none) (ha : PA X [a] (tL X.K z ag)) (hg : Gl X "range" := by rfl) (hs : starEach [a] X.env = [(false, eval a X.env)] := by rfl) : PI X tg (.Call (.Name "range" p) [a] [] pos) (tI X.K z (callF rg1 ag)) := pi_imp (pi_range1 hg hm ha hs) fun σ H R ⟨F, env, E, ds, hd, k⟩ => by
  obtain ⟨d, h1, hd⟩ := bnd_some hd
  refine ⟨F, env, E, d, h1, fun F1 H1 vs g1 r1 => ?_⟩
  unfold rg1 at hd
  split at hd
  · split at hd
    · next j hj =>
      obtain rfl := Option.some.inj hd
      cases r1 with
      | cons r1 rr =>
        cases rr
        have w := inI62 hj
        refine ⟨j, by rw [rep_int r1], w.1, w.2, k F1 H1 _ g1 ?_⟩
        unfold Wlk
        rw [upI_len]
        refine walk_range.mono (fun H q => trivial) fun i H x H' hi hF y F2 s1 s2 => ?_
        obtain ⟨rfl, rfl⟩ := y
        exact ⟨F2, _, .refl s2, upI_at _ _ _ hi, .int _⟩
    · cases hd
  · cases hd
theorem p_range2 {p : Pos} (hm : X.mg "range" = none) (ha : PA X [a, b] (tL X.K z ag)) (hg : Gl X "range" := by rfl) (hs : starEach [a, b] X.env = [(false, eval a X.env), (false, eval b X.env)] := by rfl) (hs2 : starEach [b] X.env = [(false, eval b X.env)] := by rfl) : PI X tg (.Call (.Name "range" p) [a, b] [] pos) (tI X.K z (callF rg2 ag)) := pi_imp (pi_range2 hg hm ha hs hs2) fun σ H R ⟨F, env, E, ds, hd, k⟩ => by
  obtain ⟨d, h1, hd⟩ := bnd_some hd
  refine ⟨F, env, E, d, h1, fun F1 H1 vs g1 r1 => ?_⟩
  unfold rg2 at hd
  split at hd
  · split at hd
    · next i j hj =>
      obtain rfl := Option.some.inj hd
      have hj := Bool.and_eq_true_iff.mp hj
      cases r1 with
      | cons r1 rr =>
        cases rr with
        | cons r2 rr =>
          cases rr
          have w1 := inI62 hj.1
          have w2 := inI62 hj.2
          refine ⟨i, j, by rw [rep_int r1, rep_int r2], ⟨w1.1, w1.2, w2.1, w2.2⟩, k F1 H1 _ g1 ?_⟩
          unfold Wlk
          rw [upI_len]
          refine walk_range.mono (fun H q => trivial) fun i H x H' hi hF y F2 s1 s2 => ?_
          obtain ⟨rfl, rfl⟩ := y
          exact ⟨F2, _, .refl s2, upI_at _ _ _ hi, .int _⟩
    · cases hd
  · cases hd
theorem p_range3 {p : Pos} (hm : X.mg "range" = none) (ha : PA X [a, b, c] (tL X.K z ag)) (hg : Gl X "range" := by rfl) (hs : starEach [a, b, c] X.env = (false, eval a X.env) :: starEach [b, c] X.env := by rfl) (hpl : (backTo pos (starEach [b, c] X.env)).any (·.1) = false := by rfl) : PI X tg (.Call (.Name "range" p) [a, b, c] [] pos) (tI X.K z (callF rg3 ag)) := pi_imp (pi_range3 hg hm ha hs hpl) fun σ H R ⟨F, env, E, ds, hd, k⟩ => by
  obtain ⟨d, h1, hd⟩ := bnd_some hd
  refine ⟨F, env, E, d, h1, fun F1 H1 vs g1 r1 => ?_⟩
  unfold rg3 at hd
  split at hd
  · split at hd
    · next i j hj =>
      obtain rfl := Option.some.inj hd
      have hj := Bool.and_eq_true_iff.mp hj
      cases r1 with
      | cons r1 rr =>
        cases rr with
        | cons r2 rr =>
          cases rr with
          | cons r3 rr =>
            cases rr
            have w1 := inI62 hj.1
            have w2 := inI62 hj.2
            refine ⟨i, j, -1, (i - j).toNat, by rw [rep_int r1, rep_int r2, rep_int r3]; rfl, RgC.neg w1.1 w1.2 w2.1 w2.2, k F1 H1 _ g1 ?_⟩
            unfold Wlk
            rw [dnI_len]
            refine walk_rangeC.mono (fun H q => trivial) fun i H x H' hi hF y F2 s1 s2 => ?_
            obtain ⟨rfl, rfl⟩ := y
            exact ⟨F2, _, .refl s2, dnI_at _ _ _ hi, .int _⟩
    · cases hd
  · cases hd
theorem walk_zipT {K : PySem.W.Frag} {a b : Addr} {xs ys : List V} {n : Nat} (hn : n = min xs.length ys.length) : Walk (RZ.ItzT K a b) n (fun H => SqT K H a xs ∧ SqT K H b ys) (YPair (fun i => xs[i]?) (fun i => ys[i]?)) := by
  subst hn
  refine ⟨fun i _ hi q => ?_, fun _ q => ⟨xs, ys, q.1, q.2, by omega⟩, fun i H v H' _ q y => ?_⟩
  · have h1 : i < xs.length := by omega
    have h2 : i < ys.length := by omega
    exact ⟨xs, ys, xs[i], ys[i], q.1, q.2, by simp [h1], by simp [h2]⟩
  · obtain ⟨T, x, z, h1, h2, h3, h4, h5⟩ := y
    exact ⟨T, x, z, h1, h2, h3, h4 xs q.1, h5 ys q.2⟩
theorem pair_of {K : PySem.W.Frag} {F : Hp} {xs ys : List V} {ds es : List D} (r1 : Reps K z.ct F xs ds) (r2 : Reps K z.ct F ys es) (i : Nat) (x y : V) (h1 : xs[i]? = some x) (h2 : ys[i]? = some y) : ∃ d e, (pairD ds es)[i]? = some (.tup [d, e]) ∧ Rep K z.ct F x d ∧ Rep K z.ct F y e := by
  obtain ⟨d, h3, h4⟩ := r1.getV h1
  obtain ⟨e, h5, h6⟩ := r2.getV h2
  exact ⟨d, e, pairD_at _ _ _ _ _ h3 h5, h4, h6⟩
theorem p_zip {p tpos : Pos} {elts : List Expr} {kk : Nat} (hm : X.mg "zip" = none) (ha : PA X [a, b] (tL X.K z ag)) (hg : Gl X "zip" := by rfl) (hs : starEach [a, b] X.env = (false, eval a X.env) :: starEach [b] X.env := by rfl) (hpl : (backTo pos (starEach [b] X.env)).any (·.1) = false := by rfl) : PI X (.Tuple elts kk tpos) (.Call (.Name "zip" p) [a, b] [] pos) (tI X.K z (callF zipOf ag)) := pi_imp (RZ.pi_zipA hg hm ha hs hpl) fun σ H R ⟨F, env, E, ds, hd, k⟩ => by
  obtain ⟨d, h1, hd⟩ := bnd_some hd
  refine ⟨F, env, E, d, h1, fun F1 H1 vs g1 r1 => ?_⟩
  unfold zipOf at hd
  split at hd
  · obtain rfl := Option.some.inj hd
    cases r1 with
    | cons r1 rr =>
      cases rr with
      | cons r2 rr =>
        cases rr
        cases r1 with
        | lst h2 h3 =>
          cases r2 with
          | lst h4 h5 =>
            refine ⟨_, _, _, _, rfl, .inl ⟨.inl (.inl (g1.s _ _ h2)), .inl (.inl (g1.s _ _ h4)), k F1 H1 _ g1 ?_⟩⟩
            refine wlk_pair (xs := fun i => _) (ys := fun i => _) ?_ (fun i x y hi => pair_of h3 h5 i x y)
            exact (walk_zip (by rw [pairD_len, h3.length, h5.length])).mono (fun H q => ⟨.inl (.inl (q _ _ h2)), .inl (.inl (q _ _ h4))⟩) fun i H x H' hi hF y => y
  · obtain rfl := Option.some.inj hd
    cases r1 with
    | cons r1 rr =>
      cases rr with
      | cons r2 rr =>
        cases rr
        cases r1 with
        | tup h2 h3 =>
          cases r2 with
          | tup h4 h5 =>
            refine ⟨_, _, _, _, rfl, .inr ⟨.inl (.inl (g1.s _ _ h2)), .inl (.inl (g1.s _ _ h4)), k F1 H1 _ g1 ?_⟩⟩
            refine wlk_pair (xs := fun i => _) (ys := fun i => _) ?_ (fun i x y hi => pair_of h3 h5 i x y)
            exact (walk_zipT (by rw [pairD_len, h3.length, h5.length])).mono (fun H q => ⟨.inl (.inl (q _ _ h2)), .inl (.inl (q _ _ h4))⟩) fun i H x H' hi hF y => y
  · cases hd
theorem p_enum {p tpos : Pos} {elts : List Expr} {kk : Nat} (hm : X.mg "enumerate" = none) (ha : PA X [a] (tL X.K z ag)) (hg : Gl X "enumerate" := by rfl) (hs : starEach [a] X.env = [(false, eval a X.env)] := by rfl) : PI X (.Tuple elts kk tpos) (.Call (.Name "enumerate" p) [a] [] pos) (tI X.K z (callF enumOf ag)) := pi_imp (pi_enum hg hm ha hs) fun σ H R ⟨F, env, E, ds, hd, k⟩ => by
  obtain ⟨d, h1, hd⟩ := bnd_some hd
  refine ⟨F, env, E, d, h1, fun F1 H1 vs g1 r1 => ?_⟩
  unfold enumOf at hd
  split at hd
  · obtain rfl := Option.some.inj hd
    cases r1 with
    | cons r1 rr =>
      cases rr
      cases r1 with
      | @lst _ xs _ h2 h3 =>
        refine ⟨_, _, rfl, .inl (.inl (g1.s _ _ h2)), k F1 H1 _ g1 ?_⟩
        refine wlk_pair (xs := fun i => some (.int (i : Nat))) (ys := fun i => xs[i]?) ?_ (fun i x y hi e1 e2 => ?_)
        · rw [numD_len, ← h3.length]
          exact walk_enum.mono (fun H q => .inl (.inl (q _ _ h2))) fun i H x H' hi hF y => y
        · obtain rfl := Option.some.inj e1
          obtain ⟨d, h4, h5⟩ := h3.getV e2
          have q := numD_at _ 0 i d h4
          rw [Nat.zero_add] at q
          exact ⟨_, _, q, .int _, h5⟩
  · cases hd
/-! ### comprehensions -/
theorem q_yes : PTs X [] (tQ X.K z fun _ => some true) := ⟨fun pins s σ H Q I ⟨F, env, E, b, hb, k⟩ => by
  obtain rfl := Option.some.inj hb
  exact pts_nil.run pins s σ H Q I (k F H (.refl E.sub))⟩
theorem q_one (h : PT X c (tQ X.K z q)) : PTs X [c] (tQ X.K z q) := pts_one h
theorem wipe_eq {σ σ' : L2.St} : ∀ (sl : List Nat), (∀ j, j ∉ sl → σ'[j]? = σ[j]?) → σ'.length = σ.length → wipe σ' sl = wipe σ sl := fun sl hj hl => by
  have at_ : ∀ (sl : List Nat) (σ : L2.St) (j : Nat), (wipe σ sl)[j]? = if j ∈ sl then (if j < σ.length then some none else none) else σ[j]? := fun sl => by
    induction sl with
    | nil =>
      intro σ j
      rfl
    | cons i is ih =>
      intro σ j
      unfold wipe
      by_cases h : i = j
      · subst h
        rw [if_pos List.mem_cons_self]
        by_cases hlt : i < σ.length
        · rw [if_pos hlt, List.getElem?_set_self (by rw [wipe_length]; exact hlt)]
        · rw [if_neg hlt, List.getElem?_eq_none (by rw [List.length_set, wipe_length]; exact Nat.le_of_not_lt hlt)]
      · rw [List.getElem?_set_ne h, ih]
        by_cases hm : j ∈ is
        · rw [if_pos hm, if_pos (List.mem_cons_of_mem _ hm)]
        · rw [if_neg hm, if_neg (fun q => (List.mem_cons.mp q).elim (fun z => h z.symm) hm)]
  refine List.ext_getElem? fun j => ?_
  rw [at_, at_, hl]
  by_cases hm : j ∈ sl
  · rw [if_pos hm, if_pos hm]
  · rw [if_neg hm, if_neg hm, hj j hm]
theorem wipe_wipe {σ : L2.St} (sl : List Nat) : wipe (wipe σ sl) sl = wipe σ sl := wipe_eq sl (fun j hj => by
  have : ∀ (is : List Nat), j ∉ is → (wipe σ is)[j]? = σ[j]? := fun is => by
    induction is with
    | nil => intro _; rfl
    | cons i is ih =>
      intro hn
      unfold wipe
      rw [List.getElem?_set_ne (fun q => hn (by rw [q]; exact List.mem_cons_self)), ih fun q => hn (List.mem_cons_of_mem _ q)]
  exact this sl hj) (wipe_length σ sl)
theorem lc_tF {K : PySem.W.Frag} {src : En → Option (List D)} {sl : List Nat} {set : D → En → Option En} {tt : En → Option Bool} {te : En → Option D} : ∀ σ H Q, tF K z (lcD src sl set tt te) σ H Q → tLc (tI K z src) (tG K z sl set) (tQ K z tt) (tD K z te) sl σ H Q := fun σ H Q ⟨F, env, E, rs, hd, k⟩ => by
  obtain ⟨ds, h1, hd⟩ := bnd_some hd
  obtain ⟨ds', h2, h2'⟩ := bnd_some hd
  obtain ⟨rfl, hsm⟩ := small_some h2
  refine ⟨F, env, E, ds', h1, fun F1 H1 J g1 W L nL => ?_⟩
  have nLH : H L = none := g1.h.free nL
  refine lc_it W (fun i H => ∃ F2 acc done rest, Same F1 F2 ∧ Grow F1 H1 F2 H ∧ ER K z F2 H (wipe σ sl) (wipeE env sl) ∧ H L = some (.lst acc) ∧ F2 L = none ∧ Reps K z.ct F2 acc done ∧ lcL set tt te (wipeE env sl) (ds'.drop i) = some rest ∧ done ++ rest = rs ∧ done.length ≤ i)
    ⟨F1, [], [], rs, .refl _, Grow.apart g1.s nL, ((E.grow g1).wipe sl).grow (Grow.apart g1.s nL), upd_same, g1.s.free nL, .nil, h2', rfl, Nat.le_refl _⟩
    (fun i H hi ⟨F2, acc, done, rest, s2, g2, E2, _⟩ => s2.trans E2.sub) (fun i x H H' hi ⟨F2, acc, done, rest, s2, g2, E2, hL, nF, ra, h2, he, hle⟩ y => ?_) (fun H ⟨F2, acc, done, rest, s2, g2, E2, hL, nF, ra, h2, he, hle⟩ => ?_)
  · obtain ⟨F3, d, g3, hd, rd⟩ := y F2 s2 E2.sub
    have hlt : i < ds'.length := hi
    rw [List.drop_eq_getElem_cons hlt] at h2
    have e1 : ds'[i] = d := by
      rw [List.getElem?_eq_getElem hlt] at hd
      exact Option.some.inj hd
    rw [e1] at h2
    obtain ⟨env3, h3, h2⟩ := bnd_some h2
    obtain ⟨b, h4, h2⟩ := bnd_some h2
    have hL3 := g3.h _ _ hL
    have nF3 := g3.n _ _ hL (fun _ z => by cases z) nF
    refine ⟨F3, _, d, E2.grow g3, rd, env3, h3, fun σ' R' hl hj => ⟨?_, ?_⟩⟩
    · have e5 : wipe σ' sl = wipe (wipe σ sl) sl := wipe_eq sl hj hl
      rw [e5, wipe_wipe]
    · refine ⟨F3, env3, R', b, h4, fun F4 H4 g4 => ?_⟩
      cases b with
      | false =>
        exact iteF ⟨F4, acc, done, rest, (s2.trans g3.f).trans g4.f, (g2.trans g3).trans g4, (E2.grow g3).grow g4, g4.h _ _ hL3, g4.n _ _ hL3 (fun _ z => by cases z) nF3, ra.mono (g3.f.trans g4.f), h2, he, Nat.le_succ_of_le hle⟩
      | true =>
        obtain ⟨r, h5, h2⟩ := bnd_some (x := te env3) (k := fun r => bnd (lcL set tt te (wipeE env sl) (ds'.drop (i + 1))) fun rs => some (r :: rs)) h2
        obtain ⟨rest', h6, h2⟩ := bnd_some h2
        obtain rfl := Option.some.inj h2
        refine iteT ⟨F4, env3, R'.grow g4, r, h5, fun F5 H5 v g5 r5 => ?_⟩
        have hL5 := g5.h _ _ (g4.h _ _ hL3)
        have nF5 := g5.n _ _ (g4.h _ _ hL3) (fun _ z => by cases z) (g4.n _ _ hL3 (fun _ z => by cases z) nF3)
        have G5 : Grow F1 H1 F5 H5 := ((g2.trans g3).trans g4).trans g5
        have E5 := ((E2.grow g3).grow g4).grow g5
        refine ⟨acc, hL5, ?_, F5, acc ++ [v], done ++ [r], rest', G5.f, ⟨G5.f, fun b o q => ?_, fun b o q => ?_, G5.n⟩, ?_, upd_same, nF5, (ra.mono ((g3.f.trans g4.f).trans g5.f)).append (.cons r5 .nil), h6, by rw [List.append_assoc]; exact he, by rw [List.length_append]; exact Nat.succ_le_succ hle⟩
        · rw [ra.length]
          exact Nat.lt_of_le_of_lt hle (Nat.lt_trans hlt hsm)
        · rw [upd_ne (ne_of_none q nL)]
          exact G5.h _ _ q
        · rw [upd_ne (ne_of_none q nF5)]
          exact G5.s _ _ q
        · refine E5.other hL5 (fun _ z => by cases z) (fun z => by cases z) nF5 (E.gr.h.free nLH) fun j e he ho hs => ((E.grow g1).wipe sl).fresh nL j e he ho hs
  · rw [List.drop_length] at h2
    obtain rfl := Option.some.inj h2
    rw [List.append_nil] at he
    subst he
    exact k F2 H L acc (g1.trans g2) nLH hL nF ra
end
end
end DK
/-! DK8 -/
set_option Elab.async false
set_option linter.all false
set_option maxRecDepth 100000
set_option maxHeartbeats 1000000
namespace DK
noncomputable section
open PySem PySem.Spec PyProof.Rows L2
open SlX (Slt SlO slH putS Slot1 SIsi)

def intsOf : List D → Option (List Int)
  | [] => some []
  | .int i :: ds => bnd (intsOf ds) fun ns => some (i :: ns)
  | _ => none
theorem ints_eq : ∀ {ds : List D} {ns : List Int}, intsOf ds = some ns → ds = ns.map .int
  | [], ns, h => by
    obtain rfl := Option.some.inj h
    rfl
  | d :: ds, ns, h => by
    cases d <;> first | (cases h; done) | skip
    obtain ⟨ms, h1, h2⟩ := bnd_some h
    obtain rfl := Option.some.inj h2
    rw [ints_eq h1]
    rfl
theorem reps_ints {K : PySem.W.Frag} {ct : Nat → Addr} {F : Hp} : ∀ {ns : List Int} {xs : List V}, Reps K ct F xs (ns.map .int) → xs = ns.map V.int
  | [], _, .nil => rfl
  | n :: ns, _, .cons r t => by
    rw [rep_int r, reps_ints t]
    rfl
theorem ints_reps {K : PySem.W.Frag} {ct : Nat → Addr} {F : Hp} : ∀ {ns : List Int}, Reps K ct F (ns.map V.int) (ns.map .int)
  | [] => .nil
  | n :: ns => .cons (.int n) ints_reps
def scalD : D → Option D
  | .non => some .non
  | .bl b => some (.bl b)
  | .int i => some (.int i)
  | .str l => some (.str l)
  | _ => none
/-- an own list, an own dict read for a moment -/
def peek (i : Nat) (f : En → Option D) (env : En) : Option D := match env[i]? with
  | some (.own ds) => bnd (f (env.set i (.lst ds))) scalD
  | some (.ownD kvs) => bnd (f (env.set i (.dct kvs))) scalD
  | _ => none
def inT : D → D → Option D
  | .int i, .tup ds => bnd (intsOf ds) fun ns => some (.bl (ns.any fun n => n == i))
  | _, _ => none
def inS : D → D → Option D
  | .int i, .dset ks => some (.bl (ks.any fun n => decide (n = i)))
  | _, _ => none
def dcL (set : D → En → Option En) (fk : En → Option D) (env : En) : List D → List Int → Option (List Int)
  | [], ks => some ks
  | d :: ds, ks => bnd (set d env) fun e => bnd (fk e) fun k => match k with
    | .int i => if ks.any (fun n => decide (n = i)) then none else dcL set fk env ds (ks ++ [i])
    | _ => none
/-- {k: True for ..} -/
def dcD (src : En → Option (List D)) (sl : List Nat) (set : D → En → Option En) (fk : En → Option D) (env : En) : Option D := bnd (src env) fun ds => bnd (small ds) fun ds => bnd (dcL set fk (wipeE env sl) ds []) fun ks => some (.dset ks)
def iSetIx (i : Nat) (fi fv : En → Option D) (env : En) : Option Out := bnd (fv env) fun v => bnd (fi env) fun j => match env[i]?, j with
  | some (.own ds), .int j => bnd (ixN ds.length j) fun n => some (.nx (env.set i (.own (ds.set n v))))
  | _, _ => none
def putT (kvs : List (List Int × Int)) (k : List Int) (v : Int) : List (List Int × Int) :=
  if (kvs.any fun kv => decide (kv.1 = k)) = true then kvs.map (fun kv => if kv.1 = k then (kv.1, v) else kv) else kvs ++ [(k, v)]
def getT : List (List Int × Int) → List Int → Option Int
  | [], _ => none
  | kv :: r, k => if kv.1 = k then some kv.2 else getT r k
def putO (i : Nat) (env : En) : Option D → D → D → Option Out
  | some (.ownD kvs), .tup ds, .int n => bnd (intsOf ds) fun ks => if kvs.length < 100000 then some (.nx (env.set i (.ownD (putT kvs ks n)))) else none
  | _, _, _ => none
def iPut (i : Nat) (fk fv : En → Option D) (env : En) : Option Out := bnd (fv env) fun v => bnd (fk env) fun k => putO i env env[i]? k v
def iOwnD (i : Nat) (env : En) : Option Out := some (.nx (env.set i (.ownD [])))
def getO : D → D → D → Option D
  | .dct kvs, .tup ds, .int n => bnd (intsOf ds) fun ks => some (.int ((getT kvs ks).getD n))
  | _, _, _ => none
def getD3 (fd fk fx : En → Option D) (env : En) : Option D := bnd (fd env) fun d => bnd (fk env) fun k => bnd (fx env) fun x => getO d k x
theorem putO_some {i : Nat} {env : En} {x : Option D} {k v : D} {o : Out} (h : putO i env x k v = some o) : ∃ kvs ks n, x = some (.ownD kvs) ∧ k = .tup (List.map D.int ks) ∧ v = .int n ∧ kvs.length < 100000 ∧ o = .nx (env.set i (.ownD (putT kvs ks n))) := by
  unfold putO at h
  split at h
  · obtain ⟨ks, h1, h⟩ := bnd_some h
    split at h
    · next hl =>
      obtain rfl := Option.some.inj h
      exact ⟨_, ks, _, rfl, by rw [ints_eq h1], rfl, hl, rfl⟩
    · cases h
  · cases h
theorem getO_some {x k v o : D} (h : getO x k v = some o) : ∃ kvs ks n, x = .dct kvs ∧ k = .tup (List.map D.int ks) ∧ v = .int n ∧ o = .int ((getT kvs ks).getD n) := by
  unfold getO at h
  split at h
  · obtain ⟨ks, h1, h⟩ := bnd_some h
    obtain rfl := Option.some.inj h
    exact ⟨_, ks, _, rfl, by rw [ints_eq h1], rfl, rfl⟩
  · cases h
theorem inS_some {x y d : D} (h : inS x y = some d) : ∃ i ks, x = .int i ∧ y = .dset ks ∧ d = .bl (ks.any fun n => decide (n = i)) := by
  cases x <;> cases y <;> first | (cases h; done) | skip
  exact ⟨_, _, rfl, rfl, (Option.some.inj h).symm⟩
def encT (p : List Int × Int) : List Key × V := (p.1.map Sum.inl, .int p.2)
theorem enc_inj {k k' : List Int} : (k.map Sum.inl : List Key) = k'.map Sum.inl ↔ k = k' := by
  constructor
  · intro h
    have w : ∀ (a b : List Int), (a.map Sum.inl : List Key) = b.map Sum.inl → a = b := fun a => by
      induction a with
      | nil => intro b h; cases b with
        | nil => rfl
        | cons => cases h
      | cons x a ih => intro b h; cases b with
        | nil => cases h
        | cons y b =>
          rw [List.map_cons, List.map_cons] at h
          injection h with h1 h2
          injection h1 with h1
          rw [h1, ih b h2]
    exact w k k' h
  · intro h
    rw [h]
theorem putT_enc (kvs : List (List Int × Int)) (k : List Int) (v : Int) : putK (kvs.map encT) (k.map Sum.inl) (.int v) = (putT kvs k v).map encT := by
  unfold putK putT
  have e1 : ((kvs.map encT).any fun kv => decide (kv.1 = (k.map Sum.inl : List Key))) = kvs.any fun kv => decide (kv.1 = k) := by
    rw [List.any_map]
    congr 1
    funext kv
    exact decide_eq_decide.mpr enc_inj
  rw [e1]
  split
  · rw [List.map_map, List.map_map]
    congr 1
    funext kv
    show (if (kv.1.map Sum.inl : List Key) = k.map Sum.inl then _ else _) = encT (if kv.1 = k then _ else _)
    by_cases h : kv.1 = k
    · rw [if_pos h, if_pos (enc_inj.mpr h)]
      rfl
    · rw [if_neg h, if_neg (fun q => h (enc_inj.mp q))]
  · rw [List.map_append]
    rfl
theorem getT_enc (kvs : List (List Int × Int)) (k : List Int) : valV (kvs.map encT) (k.map Sum.inl) = (getT kvs k).map V.int := by
  induction kvs with
  | nil => rfl
  | cons p r ih =>
    rw [List.map_cons]
    unfold getT
    by_cases h : p.1 = k
    · rw [if_pos h, valV_pos (enc_inj.mpr h)]
      rfl
    · rw [if_neg h, valV_neg (fun q => h (enc_inj.mp q)), ih]
theorem keyTup (ks : List Int) : ((ks.map Sum.inl : List Key).map kV) = ks.map V.int := by
  rw [List.map_map]
  rfl

section
variable {X : Cx} {z : Zc} {f g h : En → Option D} {q r : En → Option Bool} {ag : En → Option (List D)} {e a b c tg iter elt : Expr} {es ifs : List Expr} {pos spos : Pos} {k : Nat}
theorem f_lc {scope : Scope} {own : List (Str × Nat)} {src : En → Option (List D)} {set : D → En → Option En} {tt : En → Option Bool} {te : En → Option D} (hc : X.calm = true) (hN : X.N.Nodup) (hi : PI X tg iter (tI X.K z src)) (ok : BlkOk X.N X.env.scope scope own)
    (hg : ∀ (s : Shared) (H : Hp) (C : Addr) (cl : List (Str × Addr)) (fp : List Addr), PG (X.blk s H scope (compEnvC scope cl C X.env) fp) tg (tG X.K z (own.map (·.2)) set)) (ht : ∀ (s : Shared) (H : Hp) (C : Addr) (cl : List (Str × Addr)) (fp : List Addr), PTs (X.blk s H scope (compEnvC scope cl C X.env) fp) ifs (tQ X.K z tt))
    (he : ∀ (s : Shared) (H : Hp) (C : Addr) (cl : List (Str × Addr)) (fp : List Addr), PE (X.blk s H scope (compEnvC scope cl C X.env) fp) elt (tD X.K z te)) (hs : ∀ x, foldedSetIterable iter X.env x = pure x := by intro _; rfl) :
    PE X (.ListComp elt [⟨tg, iter, ifs, 0⟩] scope pos) (tF X.K z (lcD src (own.map (·.2)) set tt te)) := pe_imp (pe_lc hc hN hi ok hg ht he hs) lc_tF
theorem s_ownLc (i : Nat) {y : Str} {py : Pos} {scope : Scope} {own : List (Str × Nat)} {src : En → Option (List D)} {set : D → En → Option En} {tt : En → Option Bool} {te : En → Option D} (hc : X.calm = true) (hN : X.N.Nodup) (hy : X.N[i]? = some y) (hyl : X.env.scope.names.lookup y = some .local)
    (hsw : swapsWith (.ListComp elt [⟨tg, iter, ifs, 0⟩] scope pos) (some (.Name y py)) spos.line X.env = pure true) (hi : PI X tg iter (tI X.K z src)) (ok : BlkOk X.N X.env.scope scope own)
    (hg : ∀ (s : Shared) (H : Hp) (C : Addr) (cl : List (Str × Addr)) (fp : List Addr), PG (X.blk s H scope (compEnvC scope cl C X.env) fp) tg (tG X.K z (own.map (·.2)) set)) (ht : ∀ (s : Shared) (H : Hp) (C : Addr) (cl : List (Str × Addr)) (fp : List Addr), PTs (X.blk s H scope (compEnvC scope cl C X.env) fp) ifs (tQ X.K z tt))
    (he : ∀ (s : Shared) (H : Hp) (C : Addr) (cl : List (Str × Addr)) (fp : List Addr), PE (X.blk s H scope (compEnvC scope cl C X.env) fp) elt (tD X.K z te)) (hs : ∀ x, foldedSetIterable iter X.env x = pure x := by intro _; rfl) :
    PS X (.Assign [.Name y py] (.ListComp elt [⟨tg, iter, ifs, 0⟩] scope pos) spos) (tS X.K z (iOwn i (lcD src (own.map (·.2)) set tt te))) := ps_imp (ps_setLc hc hN hy hyl hsw hi ok hg ht he hs) fun E σ H q => lc_tF σ H _ (tF_own i E σ H q)
theorem d_in (ha : PE X a (tD X.K z f)) (hb : PE X b (tD X.K z g)) (hm : behindInMarks .In b = false) : PE X (.Compare a [.In] [b] pos) (tD X.K z (b2 inT f g)) := d_cmp op_in_seq (fun F H x y p q d Q s hd r1 r2 k => by
  cases p <;> cases q <;> first | (cases hd; done) | skip
  obtain ⟨ns, h1, hd⟩ := bnd_some (show bnd (intsOf _) _ = _ from hd)
  obtain rfl := Option.some.inj hd
  obtain rfl := ints_eq h1
  cases r2 with
  | tup h2 h3 =>
    obtain rfl := reps_ints h3
    refine ⟨_, _, rfl, .inr (.inl (.inl (s _ _ h2))), by rw [rep_int r1]; rfl, ?_, ?_⟩
    · rw [List.all_map, List.all_eq_true]
      exact fun _ _ => rfl
    · rw [rep_int r1]
      have e : ∀ i : Int, inV (V.int i) (ns.map V.int) = ns.any fun n => n == i := fun i => by
        unfold inV
        rw [List.any_map]
        rfl
      simp only [Bool.false_eq_true, if_false]
      rw [e]
      exact k F H _ (.refl s) (.bl _)) ha hb hm
theorem d_inD (hu : X.A.units + 1 < cLine) (ha : PE X a (tD X.K z f)) (hb : PE X b (tD X.K z g)) (h1 : behindInMarks .In b = false := by first | exact nobehind _ (by decide) (by decide) | rfl) : PE X (.Compare a [.In] [b] pos) (tD X.K z (b2 inS f g)) := pe_imp (pe_cmp (pc_din hu ha hb) h1) fun σ H Q ⟨F, env, E, d, hd, k⟩ => by
  obtain ⟨p, h1, hd⟩ := bnd_some hd
  obtain ⟨p2, h2, hd⟩ := bnd_some hd
  refine ⟨F, env, E, p, h1, fun F1 H1 x g1 r1 => ⟨F1, env, E.grow g1, p2, h2, fun F2 H2 y g2 r2 => ?_⟩⟩
  obtain ⟨i, ks, rfl, rfl, rfl⟩ := inS_some hd
  cases r2 with
  | @dset ad _ h3 =>
    refine ⟨ad, _, rfl, .inl ⟨_, .inl i, .inl (g2.s _ _ h3), by rw [rep_int r1]; rfl, rfl⟩, ?_⟩
    rw [← valV_any, List.any_map]
    have e : ((fun kv => decide (kv.1 = (Sum.inl i : Key))) ∘ fun (k : Int) => ((Sum.inl k : Key), V.bl true)) = fun n => decide (n = i) := by
      funext n
      show decide ((Sum.inl n : Key) = Sum.inl i) = decide (n = i)
      rw [decide_eq_decide]
      exact ⟨fun q => by injection q, fun q => by rw [q]⟩
    rw [e]
    exact k F2 H2 _ (g1.trans g2) (.bl _)
theorem peek_tD (i : Nat) {K : PySem.W.Frag} : ∀ σ H Q, tD K z (peek i f) σ H Q → tD K z f σ H Q := fun σ H Q ⟨F, env, E, d, hd, k⟩ => by
  have fin : ∀ {F1 : Hp} {env1 : En} {d0 : D}, Same F F1 → ER K z F1 H σ env1 → f env1 = some d0 → scalD d0 = some d → tD K z f σ H Q := fun {F1 env1 d0} s1 R1 h1 h2 => by
    refine ⟨F1, env1, R1, d0, h1, fun F2 H2 v g2 r2 => k F H2 v ⟨.refl _, g2.h, E.sub.trans g2.h, fun _ _ _ _ q => q⟩ ?_⟩
    cases d0 <;> first | (cases h2; done) | skip
    · obtain rfl := Option.some.inj h2
      cases r2
      exact .non
    · obtain rfl := Option.some.inj h2
      rw [rep_bl r2]
      exact .bl _
    · obtain rfl := Option.some.inj h2
      rw [rep_int r2]
      exact .int _
    · obtain rfl := Option.some.inj h2
      rw [rep_str r2]
      exact .str _
  unfold peek at hd
  split at hd
  · next ds h =>
    obtain ⟨d0, h1, h2⟩ := bnd_some hd
    obtain ⟨F1, s1, R1⟩ := E.freeze h
    exact fin s1 R1 h1 h2
  · next kvs h =>
    obtain ⟨d0, h1, h2⟩ := bnd_some hd
    obtain ⟨F1, s1, R1⟩ := E.freezeD h
    exact fin s1 R1 h1 h2
  · cases hd
theorem d_peek (i : Nat) (h : PE X e (tD X.K z f)) : PE X e (tD X.K z (peek i f)) := pe_imp h (peek_tD i)
theorem s_setIx (i : Nat) {st : Stmt} (hp : PS X st (tAsg (tD X.K z f) (gSub (tVar i) (tD X.K z g) rSetL))) : PS X st (tS X.K z (iSetIx i g f)) := ps_imp hp fun E σ H ⟨F, env, R, o, ho, p⟩ => by
  obtain ⟨v, h1, ho⟩ := bnd_some ho
  obtain ⟨j, h2, ho⟩ := bnd_some ho
  refine ⟨F, env, R, v, h1, fun F1 H1 x g1 r1 => ?_⟩
  cases h3 : env[i]? with
  | none => rw [h3] at ho; cases ho
  | some d0 =>
    rw [h3] at ho
    cases d0 <;> first | (cases ho; done) | skip
    cases j <;> first | (cases ho; done) | skip
    rename_i ds j
    obtain ⟨n, h4, ho⟩ := bnd_some (show bnd (ixN ds.length j) _ = _ from ho)
    obtain rfl := Option.some.inj ho
    obtain ⟨v0, hv, l, xs, rfl, h5, h6, h7, h8⟩ := R.ent i _ h3 (fun q => by cases q)
    refine ⟨.ref l, hv, F1, env, R.grow g1, .int j, h2, fun F2 H2 y g2 r2 => ?_⟩
    have g3 := g1.trans g2
    have h5' := g3.h _ _ h5
    have h6' := g3.n _ _ h5 (fun _ z => by cases z) h6
    refine ⟨l, xs, j, n, rfl, rep_int r2, h5', by rw [h8.length]; exact h4, ?_⟩
    refine p F2 _ σ g3.f ((R.grow g3).upd h3 rfl hv ⟨_, h5', fun _ q => (by cases q), fun q => (by cases q)⟩ h6' h7 ?_ rfl)
    exact ⟨l, _, rfl, upd_same, h6', h7, (h8.mono g3.f).set n (r1.mono g2.f)⟩
theorem s_ownD (i : Nat) {x : Str} {p1 pos' : Pos} (hN : X.N.Nodup) (hx : Loc X.env.scope x) (hi : X.N[i]? = some x := by rfl) (hs : swapsWith (.Dict [] [] p1) (some (.Name x pos')) pos.line X.env = pure false := by rfl) (hf : X.fn x = true ∨ X.env.scope.names.lookup x = some .local := by first | exact .inl rfl | exact .inr rfl) :
    PS X (.Assign [.Name x pos'] (.Dict [] [] p1) pos) (tS X.K z (iOwnD i)) := ps_imp (ps_set hN hi hx pe_dnewT hs hf) fun E σ H ⟨F, env, R, o, ho, p⟩ => by
  obtain rfl := Option.some.inj ho
  intro p' np
  have g1 := Grow.apart (o := .dT []) R.sub np
  exact p F _ _ (.refl _) ((R.grow g1).setOwn i ⟨p', rfl, upd_same, R.sub.free np, R.gr.h.free np⟩ fun j e hj he ho => R.fresh np j e he ho)
theorem s_put (i : Nat) {st : Stmt} (hp : PS X st (sDPut (tVar i) (tD X.K z g) (tD X.K z f))) : PS X st (tS X.K z (iPut i g f)) := ps_imp hp fun E σ H ⟨F, env, R, o, ho, p⟩ => by
  obtain ⟨v, h1, ho⟩ := bnd_some ho
  obtain ⟨j, h2, ho⟩ := bnd_some ho
  obtain ⟨kvs, ks, n, h3, rfl, rfl, hlt, rfl⟩ := putO_some ho
  refine ⟨F, env, R, _, h1, fun F1 H1 x g1 r1 => ?_⟩
  obtain ⟨v0, hv, l, rfl, h5, h6, h7⟩ := R.ent i _ h3 (fun q => by cases q)
  refine ⟨.ref l, hv, F1, env, R.grow g1, _, h2, fun F2 H2 y g2 r2 => ?_⟩
  have g3 := g1.trans g2
  have h5' := g3.h _ _ h5
  have h6' := g3.n _ _ h5 (fun _ z => by cases z) h6
  cases r2 with
  | @tup b xs _ h8 h9 =>
    obtain rfl := reps_ints h9
    refine ⟨l, L2.upd H2 l (.dT (putK (kvs.map encT) (ks.map Sum.inl) (.int n))), rfl, .inr ⟨kvs.map encT, ks.map Sum.inl, b, h5', rfl, ?_, ?_, by rw [rep_int r1]⟩, ?_⟩
    · rw [keyTup]
      exact g2.s _ _ (by first | exact h8 | exact g2.f _ _ h8)
    · rw [List.length_map]
      exact Nat.lt_of_lt_of_le hlt (by decide)
    · rw [putT_enc]
      refine p F2 _ σ g3.f ((R.grow g3).upd h3 rfl hv ⟨_, h5', fun _ q => (by cases q), fun q => (by cases q)⟩ h6' h7 ?_ rfl)
      exact ⟨l, rfl, upd_same, h6', h7⟩
theorem d_get {apos cpos : Pos} (hu : X.A.units + 1 < cLine) (ho : PE X a (tD X.K z f)) (he : PE X b (tD X.K z g)) (hf : PE X c (tD X.K z h)) (m : M2 X a "get" apos b c cpos) : PE X (.Call (.Attribute a "get" apos) [b, c] [] cpos) (tD X.K z (getD3 f g h)) := pe_imp (pe_dget2 hu ho he hf m) fun σ H Q ⟨F, env, E, d, hd, k⟩ => by
  obtain ⟨p1, h1, hd⟩ := bnd_some hd
  obtain ⟨p2, h2, hd⟩ := bnd_some hd
  obtain ⟨p3, h3, hd⟩ := bnd_some hd
  refine ⟨F, env, E, p1, h1, fun F1 H1 x g1 r1 => ?_⟩
  obtain ⟨kvs, ks, n, rfl, rfl, rfl, rfl⟩ := getO_some hd
  cases r1 with
  | @dct ad _ h5 =>
    refine ⟨ad, rfl, .inr ⟨_, .inl (g1.s _ _ h5)⟩, F1, env, E.grow g1, _, h2, fun F2 H2 y g2 r2 => ⟨F2, env, (E.grow g1).grow g2, _, h3, fun F3 H3 w g3 r3 => ?_⟩⟩
    cases r2 with
    | @tup b' xs _ h8 h9 =>
      obtain rfl := reps_ints h9
      refine ⟨(getT kvs ks).map V.int, .inr ⟨kvs.map encT, ks.map Sum.inl, b', .inl (g3.h _ _ (g2.h _ _ (g1.s _ _ h5))), rfl, ?_, (getT_enc kvs ks).symm⟩, ?_⟩
      · rw [keyTup]
        exact g3.h _ _ (g2.s _ _ h8)
      · rw [rep_int r3]
        have e : ((getT kvs ks).map V.int).getD (.int n) = .int ((getT kvs ks).getD n) := by
          cases getT kvs ks <;> rfl
        rw [e]
        exact k F3 H3 _ ((g1.trans g2).trans g3) (.int _)
end
end
end DK
/-! DK9 -/
set_option Elab.async false
set_option linter.all false
set_option maxRecDepth 100000
set_option maxHeartbeats 1000000
namespace DK
noncomputable section
open PySem PySem.Spec PyProof.Rows L2
open SlX (Slt SlO slH putS Slot1 SIsi)

/-! ### a def from its body -/
def resD : Option Out → Option D
  | some (.rt d) => some d
  | some (.nx _) => some .non
  | none => none
def fnD (n m : Nat) (g : En → Option Out) (ds : List D) : Option D := if ds.length = n then resD (g (apR ds (List.replicate m .unb))) else none
theorem reps_start {K : PySem.W.Frag} {ct : Nat → Addr} {F : Hp} {vs : List V} {ds : List D} (r : Reps K ct F vs ds) (i : Nat) (d : D) (m : Nat) (ws : List (Option V)) (h : (ds ++ List.replicate m D.unb)[i]? = some d) (hu : d ≠ .unb) : ∃ v, (vs.map some ++ ws)[i]? = some (some v) ∧ Rep K ct F v d := by
  by_cases hi : i < ds.length
  · rw [List.getElem?_append_left hi] at h
    obtain ⟨v, h1, h2⟩ := r.get h
    refine ⟨v, ?_, h2⟩
    rw [List.getElem?_append_left (by rw [List.length_map, r.length]; exact hi), List.getElem?_map, h1]
    rfl
  · rw [List.getElem?_append_right (Nat.le_of_not_lt hi), List.getElem?_replicate] at h
    split at h
    · exact absurd (Option.some.inj h).symm hu
    · cases h
theorem rep_notOwn {K : PySem.W.Frag} {ct : Nat → Addr} {F : Hp} {v : V} {d : D} (r : Rep K ct F v d) : d.isOwn = false := by cases r <;> rfl
theorem er_start {K : PySem.W.Frag} {ct : Nat → Addr} {F H : Hp} {vs : List V} {ds : List D} {N : List Str} (s : Same F H) (r : Reps K ct F vs ds) : ER K ⟨ct, F, H, 0⟩ F H (L2.start N vs) (ds ++ List.replicate (N.length - ds.length) .unb) := by
  have no : ∀ (i : Nat) (d : D), (ds ++ List.replicate (N.length - ds.length) D.unb)[i]? = some d → d.isOwn = true → False := fun i d h ho => by
    obtain ⟨v, _, h2⟩ := reps_start r i d _ [] h (fun q => by subst q; cases ho)
    rw [rep_notOwn h2] at ho
    cases ho
  refine ⟨?_, .refl s, fun i d h hu => ?_, fun i j d e l _ h1 h2 h3 _ _ _ => (no i d h1 h3).elim⟩
  · unfold L2.start
    rw [List.length_append, List.length_append, List.length_map, List.length_replicate, List.length_replicate, r.length]
  · obtain ⟨v, h1, h2⟩ := reps_start r i d _ (List.replicate (N.length - vs.length) none) h hu
    exact ⟨v, h1, .of h2⟩
section
variable {P : Program} {w : World} {K : PySem.W.Frag} {mg : Str → Option Value} {base : Heap}
theorem ok_fn {ct : Nat → Addr} {x qual : Str} {st : Stmt} {f : Addr} {fd : FuncData} {N ps : List Str} {k : Nat} {g : En → Option Out} {m : Nat} (F : Fun K x qual st f fd) (S : FnScope N ps (defScope st)) (hm : N.length - ps.length = m)
    (body : ∀ (cdv : Value) (A : Around) (outer : List Env) (s : Shared) (H : Hp) (E : XK) (F0 H0 : Hp), Room k (A.deeper (envOfC qual (defScope st) s.heap.objs.size f cdv)) →
      PSs (cxOf CX0 P w K mg base N qual (defScope st) f cdv A outer s H E).nox (defBody st) (tS K ⟨ct, F0, H0, 0⟩ g)) : FnOk P w K mg base CX0 (k + 1) f fd ps (spD K ct (fnD ps.length m g)) := by
  have hl : ∀ {vs : List V} {H : Hp} {Q : VK} {E : XK}, spD K ct (fnD ps.length m g) vs H Q E → vs.length = ps.length := fun {vs H Q E} ⟨F, ds, s, r, d, hd, _⟩ => by
    unfold fnD at hd
    split at hd
    · next h => rw [r.length, h]
    · cases hd
  refine F.ok S (fun vs H Q E h => hl h) (fun cdv A outer s H vs Q E hr h => ?_)
  obtain ⟨F1, ds, s1, r, d, hd, q⟩ := h
  have hlen : ds.length = ps.length := by
    unfold fnD at hd
    split at hd
    · assumption
    · cases hd
  unfold fnD at hd
  rw [if_pos hlen, apR_eq] at hd
  cases ho : g (ds ++ List.replicate m .unb) with
  | none => rw [ho] at hd; cases hd
  | some o =>
    rw [ho] at hd
    refine ⟨_, body cdv A outer s H E F1 H hr, F1, _, ?_, o, ho, ?_⟩
    · have e := er_start (N := N) s1 r
      rw [hlen, hm] at e
      exact e
    · cases o with
      | nx env =>
        obtain rfl := Option.some.inj hd
        exact fun F' H' σ' s' R => q F' H' .non R.gr .non
      | rt d' =>
        obtain rfl := Option.some.inj hd
        exact fun F' H' v s' gr rv => q F' H' v gr rv

/-! ### __init__ of a class with slots -/
def hideH (H : Hp) (x dx : Addr) : Hp := fun b => if b = x ∨ b = dx then none else H b
def isSet : D → Bool
  | .unb => false
  | _ => true
def allSet (ds : List D) : Bool := ds.all isSet
def inRes (c : Nat) : Option Out → Option (List D)
  | some (.nx (.ownO c' ds :: _)) => if c = c' ∧ allSet ds = true ∧ ds ≠ [] then some ds else none
  | _ => none
def inD (c n m : Nat) (g : En → Option Out) (ds : List D) : Option (List D) := if ds.length + 1 = n then inRes c (g (.ownO c [] :: (ds ++ List.replicate m .unb))) else none
def spI (K : PySem.W.Frag) (ct : Nat → Addr) (c : Nat) (fn : List D → Option (List D)) : Sp := fun vs H Q _ => ∃ F x dx us ds, vs = .ref x :: us ∧ H x = some (.ins (ct c) dx []) ∧ H dx = some (.own x) ∧ dx ≠ x ∧ F x = none ∧ F dx = none ∧ Same F H ∧ Reps K ct F us ds ∧
  ∃ r, fn ds = some r ∧ ∀ F' H', Grow F (hideH H x dx) F' H' → Rep K ct F' (.ref x) (.obj c r) → Q .non H'
theorem hide_same {H : Hp} {x dx : Addr} : Same (hideH H x dx) H := fun b o q => by
  unfold hideH at q
  split at q
  · cases q
  · exact q
theorem repsO_all {ct : Nat → Addr} {F : Hp} : ∀ {ds : List D} {vs : List (Option V)}, vs.length = ds.length → allSet ds = true → (∀ (i : Nat) (d : D), ds[i]? = some d → d = .unb ∨ ∃ x, vs[i]? = some (some x) ∧ Rep K ct F x d) → ∃ us, vs = us.map some ∧ Reps K ct F us ds
  | [], [], _, _, _ => ⟨[], rfl, .nil⟩
  | [], _ :: _, h, _, _ => by cases h
  | _ :: _, [], h, _, _ => by cases h
  | d :: ds, v :: vs, h, ha, hr => by
    have ha := Bool.and_eq_true_iff.mp (show (isSet d && allSet ds) = true from ha)
    obtain ⟨us, h1, h2⟩ := repsO_all (vs := vs) (by simpa using h) ha.2 fun i d hd => by
      have q := hr (i + 1) d (by simpa using hd)
      simpa using q
    rcases hr 0 d rfl with q | ⟨x, q1, q2⟩
    · subst q
      exact absurd ha.1 Bool.false_ne_true
    · have e : v = some x := Option.some.inj q1
      subst e
      exact ⟨x :: us, by rw [List.map_cons, h1], .cons q2 h2⟩
/-- a def that may have defaults (none of them is taken) -/
def FunI (K : PySem.W.Frag) (x qual : Str) (st : Stmt) (f : Addr) (fd : FuncData) : Prop := ∃ (dvs : List V) (kws : List (Str × V)), FunD K x qual (defArgs st) (defBody st) (defScope st) dvs kws f fd
theorem FunI.ok {x qual : Str} {st : Stmt} {f : Addr} {fd : FuncData} {N ps : List Str} {k : Nat} {sp : Sp} (F : FunI K x qual st f fd) (S : FnScope N ps (defScope st)) (len : ∀ vs H Q E, sp vs H Q E → vs.length = ps.length)
    (hbody : ∀ (cdv : Value) (A : Around) (outer : List Env) (s : Shared) (H : Hp) (vs : List V) (Q : VK) (E : XK), Room k (A.deeper (envOfC qual (defScope st) s.heap.objs.size f cdv)) → sp vs H Q E →
      ∃ t, PSs (cxOf CX0 P w K mg base N qual (defScope st) f cdv A outer s H E).nox (defBody st) t ∧ t { nx := fun _ H' => Q .non H', rt := Q } (start N vs) H) : FnOk P w K mg base CX0 (k + 1) f fd ps sp := by
  obtain ⟨dvs, kws, F⟩ := F
  refine F.ok S len fun cdv A outer s H vs Q E hr hsp => ?_
  obtain ⟨t, h, q⟩ := hbody cdv A outer s H vs Q E hr hsp
  exact ⟨t, h.nox, q⟩
theorem ok_init {ct : Nat → Addr} {c : Nat} {x qual : Str} {st : Stmt} {f : Addr} {fd : FuncData} {N ps : List Str} {k : Nat} {g : En → Option Out} {m : Nat} (F : FunI K x qual st f fd) (S : FnScope N ps (defScope st)) (hm : N.length - ps.length = m)
    (body : ∀ (cdv : Value) (A : Around) (outer : List Env) (s : Shared) (H : Hp) (E : XK) (F0 H0 : Hp) (me : Addr), Room k (A.deeper (envOfC qual (defScope st) s.heap.objs.size f cdv)) →
      PSs (cxOf CX0 P w K mg base N qual (defScope st) f cdv A outer s H E).nox (defBody st) (tS K ⟨ct, F0, H0, me⟩ g)) : FnOk P w K mg base CX0 (k + 1) f fd ps (spI K ct c (inD c ps.length m g)) := by
  have hl : ∀ {vs : List V} {H : Hp} {Q : VK} {E : XK}, spI K ct c (inD c ps.length m g) vs H Q E → vs.length = ps.length := fun {vs H Q E} ⟨F, x, dx, us, ds, e, _, _, _, _, _, _, r, d, hd, _⟩ => by
    unfold inD at hd
    split at hd
    · next h =>
      subst e
      rw [List.length_cons, r.length, h]
    · cases hd
  refine F.ok S (fun vs H Q E h => hl h) (fun cdv A outer s H vs Q E hr h => ?_)
  clear hl
  obtain ⟨F1, x1, dx1, us, ds, e, h1, h2, h3, h4, h5, s1, r, d, hd, q⟩ := h
  unfold inD at hd
  split at hd
  rotate_left
  · cases hd
  next hlen =>
  subst e
  have s2 : Same F1 (hideH H x1 dx1) := fun b o hq => by
    unfold hideH
    rw [if_neg (fun z => by
      rcases z with z | z
      · subst z; rw [h4] at hq; cases hq
      · subst z; rw [h5] at hq; cases hq)]
    exact s1 _ _ hq
  have hx0 : hideH H x1 dx1 x1 = none := by
    unfold hideH
    rw [if_pos (.inl rfl)]
  have hd0 : hideH H x1 dx1 dx1 = none := by
    unfold hideH
    rw [if_pos (.inr rfl)]
  have R0 : ER K ⟨ct, F1, hideH H x1 dx1, x1⟩ F1 H (L2.start N (V.ref x1 :: us)) (.ownO c [] :: (ds ++ List.replicate m .unb)) := by
    have hml : N.length - (ds.length + 1) = m := by rw [hlen, hm]
    have no : ∀ (i : Nat) (d : D), (ds ++ List.replicate m D.unb)[i]? = some d → d.isOwn = true → False := fun i d h ho => by
      obtain ⟨v, _, h2⟩ := reps_start r i d _ [] h (fun q => by subst q; cases ho)
      rw [rep_notOwn h2] at ho
      cases ho
    refine ⟨?_, ⟨.refl _, hide_same, s1, fun _ _ _ _ z => z⟩, fun i d h hu => ?_, fun i j d e l hij w1 w2 w3 w4 w5 w6 => ?_⟩
    · unfold L2.start
      rw [List.length_append, List.length_map, List.length_replicate, List.length_cons, List.length_cons, List.length_append, List.length_replicate, r.length, hml]
      omega
    · cases i with
      | zero =>
        obtain rfl := Option.some.inj h
        refine ⟨.ref x1, rfl, x1, dx1, [], rfl, ⟨h3, rfl⟩, .inl ⟨h1, rfl⟩, ⟨_, h2, .inl rfl⟩, h4, h5, hx0, hd0, rfl, fun i d hd => by simp at hd⟩
      | succ i =>
        obtain ⟨v, t1, t2⟩ := reps_start r i d _ (List.replicate (N.length - (us.length + 1)) none) (by simpa using h) hu
        exact ⟨v, by unfold L2.start; simpa using t1, .of t2⟩
    · cases i with
      | zero =>
        cases j with
        | zero => exact hij rfl
        | succ j => exact no j e (by simpa using w2) w4
      | succ i => exact no i d (by simpa using w1) w3
  cases ho : g (.ownO c [] :: (ds ++ List.replicate m .unb)) with
  | none => rw [ho] at hd; cases hd
  | some o =>
    rw [ho] at hd
    refine ⟨_, body cdv A outer s H E F1 (hideH H x1 dx1) x1 hr, F1, _, R0, o, ho, ?_⟩
    cases o with
    | rt d' => cases hd
    | nx env =>
      intro F' H' σ' s' R
      cases env with
      | nil => cases hd
      | cons d0 env =>
        cases d0 <;> first | (cases hd; done) | skip
        rename_i c' fs
        unfold inRes at hd
        simp only at hd
        split at hd
        · next hc =>
          obtain ⟨rfl, hc1, hc2⟩ := hc
          obtain rfl := Option.some.inj hd
          obtain ⟨v, hv, a, dx, vs, rfl, ne, t1, ⟨o, t2, ho2⟩, t3, t4, t5, t6, t7, t8⟩ := R.ent 0 _ rfl (fun q => by cases q)
          obtain ⟨ne, rfl⟩ := ne
          obtain ⟨ws, rfl, rw⟩ := repsO_all t7 hc1 t8
          rcases t1 with ⟨y1, y2⟩ | ⟨y1, y2⟩
          · have hl := t7
            rw [y2] at hl
            exact absurd (List.length_eq_zero_iff.mp hl.symm) hc2
          · have sF : Same F' (L2.upd (L2.upd F' dx (.xd [])) a (SlO a (ct c) dx (ws.map some))) := fun b o hq => by
              rw [upd_ne (ne_of_none hq t3), upd_ne (ne_of_none hq t4)]
              exact hq
            refine q (L2.upd (L2.upd F' dx (.xd [])) a (SlO a (ct c) dx (ws.map some))) H' ⟨R.gr.f.trans sF, R.gr.h, fun b o hq => ?_, fun b o hb ht hf => ?_⟩ (.obj (.inr ⟨upd_same, by rw [upd_ne ne, upd_same]⟩) (rw.mono sF))
            · by_cases b1 : b = a
              · subst b1
                rw [upd_same] at hq
                rw [← hq]
                exact y1
              · rw [upd_ne b1] at hq
                by_cases b2 : b = dx
                · subst b2
                  rw [upd_same] at hq
                  rw [← hq]
                  exact y2
                · rw [upd_ne b2] at hq
                  exact R.sub _ _ hq
            · rw [upd_ne (ne_of_none hb t5), upd_ne (ne_of_none hb t6)]
              exact R.gr.n b o hb ht hf
        · cases hd
end
end
end DK
/-! DK10 -/
set_option Elab.async false
set_option linter.all false
set_option maxRecDepth 100000
set_option maxHeartbeats 1000000
namespace DK
noncomputable section
open PySem PySem.Spec PyProof.Rows L2
open SlX (Slt SlO slH putS Slot1 SIsi)

/-- the module's name x is a class whose instances are made by fn -/
structure Mak (P : Program) (w : World) (K : PySem.W.Frag) (mg : Str → Option Value) (base : Heap) (ct : Nat → Addr) (k : Nat) (x : Str) (c : Nat) (fn : List D → Option (List D)) : Prop where
  ex : ∃ (fa : Addr) (fd : FuncData) (ps : List Str), Mk K (ct c) fa ∧ FnOk P w K mg base CX0 k fa fd ps (spI K ct c fn) ∧ mg x = some (.ref (ct c)) ∧ Binds K fd ps []
def makeD (c : Nat) (fn : List D → Option (List D)) (g : En → Option (List D)) (env : En) : Option D := bnd (g env) fun ds => bnd (fn ds) fun r => some (.obj c r)
def putFD (i : Nat) (d : D) (ds : List D) : List D := (ds ++ List.replicate (i + 1 - ds.length) D.unb).set i d
def storeO (j i c : Nat) (d : D) (env : En) : Option D → Option Out
  | some (.ownO c' ds) => if c = c' ∧ ((env.set j .unb).all fun d => !d.isOwn) = true then some (.nx (env.set j (.ownO c (putFD i d ds)))) else none
  | _ => none
def iStore (j i c : Nat) (f : En → Option D) (env : En) : Option Out := bnd (f env) fun d => storeO j i c d env env[j]?
def setV : List Nat → List V → L2.St → L2.St
  | i :: is, v :: vs, σ => setV is vs (σ.set i (some v))
  | _, _, σ => σ
inductive Ents (K : PySem.W.Frag) (ct : Nat → Addr) (Hs F H : Hp) : List V → List D → Prop
  | nil : Ents K ct Hs F H [] []
  | cons {v : V} {d : D} {vs : List V} {ds : List D} : Rep K ct F v d → Ents K ct Hs F H vs ds → Ents K ct Hs F H (v :: vs) (d :: ds)
  | own {l : Addr} {xs vs : List V} {es ds : List D} : H l = some (.lst xs) → Hs l = none → F l = none → Reps K ct F xs es → (∀ e ∈ ds, D.isOwn e = false) → Ents K ct Hs F H vs ds → Ents K ct Hs F H (.ref l :: vs) (.own es :: ds)
def tM (K : PySem.W.Frag) (z : Zc) (g : En → Option (List D)) : TA := fun σ H Q => ∃ F env, ER K z F H σ env ∧ ∃ ds, g env = some ds ∧ ∀ F' H' vs, Grow F H F' H' → Ents K z.ct H F' H' vs ds → Q vs H'
def mOwn (fl : En → Option (List D)) (g : En → Option (List D)) (env : En) : Option (List D) := bnd (fl env) fun es => bnd (g env) fun ds => if (ds.all fun d => !d.isOwn) = true then some (.own es :: ds) else none
def iPar (is : List Nat) (g : En → Option (List D)) (env : En) : Option Out := bnd (g env) fun ds => bnd (setAll is ds env) fun e => some (.nx e)
def gNames : List Nat → TGs
  | [] => gNil
  | i :: is => gCons (gName i) (gNames is)
theorem Ents.length {K : PySem.W.Frag} {ct : Nat → Addr} {Hs F H : Hp} {vs : List V} {ds : List D} (h : Ents K ct Hs F H vs ds) : vs.length = ds.length := by
  induction h with
  | nil => rfl
  | cons _ _ ih => exact congrArg (· + 1) ih
  | own _ _ _ _ _ _ ih => exact congrArg (· + 1) ih
theorem Ents.grow {K : PySem.W.Frag} {ct : Nat → Addr} {Hs F H F' H' : Hp} {vs : List V} {ds : List D} (g : Grow F H F' H') (h : Ents K ct Hs F H vs ds) : Ents K ct Hs F' H' vs ds := by
  induction h with
  | nil => exact .nil
  | cons r _ ih => exact .cons (r.mono g.f) ih
  | own h1 h2 h3 h4 h5 _ ih => exact .own (g.h _ _ h1) h2 (g.n _ _ h1 (fun _ z => by cases z) h3) (h4.mono g.f) h5 ih
theorem Ents.before {K : PySem.W.Frag} {ct : Nat → Addr} {Hs Hs' F H : Hp} {vs : List V} {ds : List D} (s : Same Hs' Hs) (h : Ents K ct Hs F H vs ds) : Ents K ct Hs' F H vs ds := by
  induction h with
  | nil => exact .nil
  | cons r _ ih => exact .cons r ih
  | own h1 h2 h3 h4 h5 _ ih => exact .own h1 (s.free h2) h3 h4 h5 ih
theorem Ents.none {K : PySem.W.Frag} {ct : Nat → Addr} {Hs F H : Hp} {vs : List V} {ds : List D} (h : Ents K ct Hs F H vs ds) : (∀ e ∈ ds, D.isOwn e = false) → Reps K ct F vs ds := by
  induction h with
  | nil => exact fun _ => .nil
  | cons r _ ih => exact fun q => .cons r (ih fun e he => q e (List.mem_cons_of_mem _ he))
  | own h1 h2 h3 h4 h5 _ ih => exact fun q => Bool.noConfusion (show true = false from q _ List.mem_cons_self)
theorem setAll_cons (i : Nat) (is : List Nat) (d : D) (ds : List D) (env : En) : setAll (i :: is) (d :: ds) env = setAll is ds (env.set i d) := by
  show setAll is ds (stR d env i) = _
  rw [stR_eq]
theorem setAll_rep {K : PySem.W.Frag} {z : Zc} {F H : Hp} : ∀ {is : List Nat} {vs : List V} {ds : List D} {σ : L2.St} {env env' : En}, ER K z F H σ env → Reps K z.ct F vs ds → setAll is ds env = some env' → ER K z F H (setV is vs σ) env'
  | [], _, _, _, _, _, E, .nil, h => by
    obtain rfl := Option.some.inj h
    exact E
  | [], _, _, _, _, _, _, .cons _ _, h => by cases h
  | _ :: _, _, _, _, _, _, _, .nil, h => by cases h
  | i :: is, _, _, _, _, _, E, .cons r t, h => setAll_rep (is := is) (E.set i r) t ((setAll_cons ..).symm.trans h)
theorem setAll_ents {K : PySem.W.Frag} {z : Zc} {Hs F H : Hp} {vs : List V} {ds : List D} (h : Ents K z.ct Hs F H vs ds) (s0 : Same z.H0 Hs) : ∀ {is : List Nat} {σ : L2.St} {env env' : En}, ER K z F H σ env → (∀ (j : Nat) (e : D), env[j]? = some e → e.isOwn = true → ∀ l, σ[j]? = some (some (.ref l)) → Hs l ≠ none) → setAll is ds env = some env' → ER K z F H (setV is vs σ) env' := by
  induction h with
  | nil =>
    intro is σ env env' E hn h
    cases is with
    | nil =>
      obtain rfl := Option.some.inj h
      exact E
    | cons => cases h
  | @cons v d vs ds r t ih =>
    intro is σ env env' E hn h
    cases is with
    | nil => cases h
    | cons i is =>
      refine ih (E.set i r) (fun j e he ho l hl => ?_) ((setAll_cons ..).symm.trans h)
      by_cases hj : i = j
      · subst hj
        have hlt : i < env.length := by
          have q := (List.getElem?_eq_some_iff.mp he).1
          rwa [List.length_set] at q
        rw [List.getElem?_set_self hlt] at he
        obtain rfl := Option.some.inj he
        rw [rep_notOwn r] at ho
        cases ho
      · rw [List.getElem?_set_ne hj] at he hl
        exact hn j e he ho l hl
  | @own l xs vs es ds h1 h2 h3 h4 h5 t ih =>
    intro is σ env env' E hn h
    cases is with
    | nil => cases h
    | cons i is =>
      show ER K z F H (setV is vs (σ.set i (some (.ref l)))) env'
      exact setAll_rep (E.setOwn i (l := l) (d := .own es) ⟨l, xs, rfl, h1, h3, s0.free h2, h4⟩ fun j e hj he ho hs => hn j e he ho l hs h2) (t.none h5) ((setAll_cons ..).symm.trans h)
section
variable {X : Cx} {z : Zc} {f g h : En → Option D} {q r : En → Option Bool} {ag : En → Option (List D)} {e a b c tg iter elt : Expr} {es ifs : List Expr} {pos spos : Pos} {k : Nat} {st : Stmt}
theorem d_make {x : Str} {p : Pos} {c : Nat} {fn : List D → Option (List D)} (C : Mak X.prog X.w X.K X.mg X.base z.ct k x c fn) (hr : Room (k + 1) X.A) (ha : PA X (e :: es) (tL X.K z ag)) (hg : Gl X x := by rfl) (hdb : (x == ("__debug__" : Str)) = false := by decide)
    (he : starEach (e :: es) X.env = (false, eval e X.env) :: starEach es X.env := by rfl) (hpl : (backTo pos (starEach es X.env)).any (·.1) = false := by rfl) : PE X (.Call (.Name x p) (e :: es) [] pos) (tD X.K z (makeD c fn ag)) := by
  obtain ⟨fa, fd, ps, M, G, hm, hb⟩ := C.ex
  refine pe_imp (pe_make M G hr hg hm hb .nil pass0 ha hdb he hpl) fun σ H Q ⟨F, env, E, d, hd, kq⟩ => ?_
  obtain ⟨ds, h1, hd⟩ := bnd_some hd
  obtain ⟨fs, h2, hd⟩ := bnd_some hd
  obtain rfl := Option.some.inj hd
  refine ⟨F, env, E, ds, h1, fun F1 H1 vs g1 r1 x dx nx ndx ne => ?_⟩
  rw [List.append_nil]
  have eH : hideH (L2.upd (L2.upd H1 dx (.own x)) x (.ins (z.ct c) dx [])) x dx = H1 := by
    funext b
    unfold hideH
    by_cases hb : b = x ∨ b = dx
    · rw [if_pos hb]
      rcases hb with rfl | rfl
      · exact nx.symm
      · exact ndx.symm
    · rw [if_neg hb, upd_ne (fun q => hb (.inl q)), upd_ne (fun q => hb (.inr q))]
  refine ⟨F1, x, dx, vs, ds, rfl, upd_same, by rw [upd_ne ne, upd_same], ne, g1.s.free nx, g1.s.free ndx, fun b o hb => ?_, r1, fs, h2, fun F' H' g' rp => ⟨rfl, kq F' H' _ (g1.trans (eH ▸ g')) rp⟩⟩
  rw [upd_ne (ne_of_none (g1.s _ _ hb) nx), upd_ne (ne_of_none (g1.s _ _ hb) ndx)]
  exact g1.s _ _ hb
theorem putFD_len (i : Nat) (d : D) (ds : List D) : (putFD i d ds).length = ds.length + (i + 1 - ds.length) := by
  unfold putFD
  rw [List.length_set, List.length_append, List.length_replicate]
theorem putS_len (i : Nat) (v : V) (vs : List (Option V)) : (putS i v vs).length = vs.length + (i + 1 - vs.length) := by
  unfold putS
  rw [List.length_set, List.length_append, List.length_replicate]
theorem s_store (j i c : Nat) {x fl : Str} {p : Addr} (C : Kls X.K X.mg x (z.ct c)) (S1 : Slot1 X.K (z.ct c) fl p i) (hp : PS X st (SlX.sSl X.K (tVar j) (tD X.K z f) fl)) : PS X st (tS X.K z (iStore j i c f)) := ps_imp hp fun E σ H ⟨F, env, R, o, ho, post⟩ => by
  obtain ⟨d, h1, ho⟩ := bnd_some ho
  refine ⟨F, env, R, d, h1, fun F1 H1 y g1 r1 => ?_⟩
  generalize hx : env[j]? = x at ho
  unfold storeO at ho
  split at ho
  rotate_left
  · cases ho
  split at ho
  rotate_left
  · cases ho
  next c' ds hc =>
  obtain ⟨rfl, hown⟩ := hc
  obtain rfl := Option.some.inj ho
  have R1 := R.grow g1
  obtain ⟨v, hv, a, dx, vs, rfl, ne, t1, ⟨o, t2, ho2⟩, t3, t4, t5, t6, t7, t8⟩ := R1.ent j _ hx (fun q => by cases q)
  refine ⟨.ref a, hv, a, _, dx, p, vs, i, rfl, t1, C.sc, S1, post F1 _ σ g1.f ?_⟩
  have hlt : j < env.length := (List.getElem?_eq_some_iff.mp hx).1
  have nown : ∀ (n : Nat) (e : D), n ≠ j → env[n]? = some e → e.isOwn = true → False := fun n e hn he ho => by
    have q := List.all_eq_true.mp hown e (List.mem_of_getElem? (i := n) (by rw [List.getElem?_set_ne (Ne.symm hn)]; exact he))
    rw [ho] at q
    cases q
  refine ⟨by rw [List.length_set]; exact R1.len, ⟨R1.gr.f, fun b o hq => ?_, fun b o hq => ?_, R1.gr.n⟩, fun n e he hu => ?_, fun n m e e' l hnm w1 w2 w3 w4 _ _ => ?_⟩
  · rw [SlX.slH_ne (ne_of_none hq t5) (ne_of_none hq t6)]
    exact R1.gr.h _ _ hq
  · rw [SlX.slH_ne (ne_of_none hq t3) (ne_of_none hq t4)]
    exact R1.gr.s _ _ hq
  · by_cases hn : j = n
    · subst hn
      rw [List.getElem?_set_self hlt] at he
      obtain rfl := Option.some.inj he
      refine ⟨_, hv, a, dx, putS i y vs, rfl, ne, SlX.slH_slt ne.1, ⟨.xd [], by unfold slH; rw [upd_ne ne.1, upd_same], .inr rfl⟩, t3, t4, t5, t6, by rw [putFD_len, putS_len, t7], fun n e he => ?_⟩
      unfold putFD at he
      unfold putS
      by_cases hni : i = n
      · subst hni
        have hl : i < (ds ++ List.replicate (i + 1 - ds.length) D.unb).length := by
          rw [List.length_append, List.length_replicate]
          omega
        rw [List.getElem?_set_self hl] at he
        obtain rfl := Option.some.inj he
        refine .inr ⟨y, List.getElem?_set_self ?_, r1⟩
        rw [List.length_append, List.length_replicate]
        omega
      · rw [List.getElem?_set_ne hni] at he ⊢
        by_cases hnl : n < ds.length
        · rw [List.getElem?_append_left hnl] at he
          rw [List.getElem?_append_left (by rw [t7]; exact hnl)]
          exact t8 n e he
        · rw [List.getElem?_append_right (Nat.le_of_not_lt hnl), List.getElem?_replicate] at he
          split at he
          · exact .inl (Option.some.inj he).symm
          · cases he
    · rw [List.getElem?_set_ne hn] at he
      obtain ⟨w, w1, w2⟩ := R1.ent n e he hu
      have ho : e.isOwn = false := by
        cases hh : e.isOwn with
        | false => rfl
        | true => exact (nown n e (Ne.symm hn) he hh).elim
      exact ⟨w, w1, .of (w2.rep ho hu)⟩
  · by_cases hn : j = n
    · subst hn
      rw [List.getElem?_set_ne hnm] at w2
      exact nown m e' (Ne.symm hnm) w2 w4
    · rw [List.getElem?_set_ne hn] at w1
      exact nown n e (Ne.symm hn) w1 w3
/-! ### a, b = e, e' -/
theorem m_nil : PA X [] (tM X.K z aNil) := pa_imp pa_nil fun σ H Q ⟨F, env, E, d, hd, k⟩ => by
  obtain rfl := Option.some.inj hd
  exact k F H [] (.refl E.sub) .nil
theorem m_cons (he : PE X e (tD X.K z f)) (hr : PA X es (tM X.K z ag)) (hs : starEach (e :: es) X.env = (false, eval e X.env) :: starEach es X.env := by rfl) : PA X (e :: es) (tM X.K z (aCons f ag)) := pa_imp (pa_cons he hr hs) fun σ H Q ⟨F, env, E, d, hd, k⟩ => by
  obtain ⟨p, h1, hd⟩ := bnd_some hd
  obtain ⟨ps, h2, hd⟩ := bnd_some hd
  obtain rfl := Option.some.inj hd
  exact ⟨F, env, E, p, h1, fun F1 H1 x g1 r1 => ⟨F1, env, E.grow g1, ps, h2, fun F2 H2 xs g2 r2 => k F2 H2 _ (g1.trans g2) (.cons (r1.mono g2.f) (r2.before g1.h))⟩⟩
theorem m_own {fl : En → Option (List D)} (he : PE X e (tF X.K z fl)) (hr : PA X es (tM X.K z ag)) (hs : starEach (e :: es) X.env = (false, eval e X.env) :: starEach es X.env := by rfl) : PA X (e :: es) (tM X.K z (mOwn fl ag)) := pa_imp (pa_cons he hr hs) fun σ H Q ⟨F, env, E, d, hd, k⟩ => by
  obtain ⟨p, h1, hd⟩ := bnd_some hd
  obtain ⟨ps, h2, hd⟩ := bnd_some hd
  split at hd
  · next hall =>
    obtain rfl := Option.some.inj hd
    refine ⟨F, env, E, p, h1, fun F1 H1 l xs g1 np hp nf r1 => ⟨F1, env, E.grow g1, ps, h2, fun F2 H2 ys g2 r2 => k F2 H2 _ (g1.trans g2) ?_⟩⟩
    refine .own (g2.h _ _ hp) np (g2.n _ _ hp (fun _ z => by cases z) nf) (r1.mono g2.f) (fun e he => ?_) (r2.before g1.h)
    have q := List.all_eq_true.mp hall e he
    cases hh : e.isOwn with
    | false => rfl
    | true => rw [hh] at q; cases q
  · cases hd
theorem par_tS {is : List Nat} : ∀ (E : Ends) σ H, tS X.K z (iPar is ag) E σ H → tM X.K z ag σ H fun vs H1 => vs.length = is.length ∧ ∀ Hx, (H1 = Hx ∨ ∃ p, H1 p = none ∧ Hx = L2.upd H1 p (.tup vs)) → E.nx (setV is vs σ) Hx := fun E σ H ⟨F, env, R, o, ho, p⟩ => by
  obtain ⟨ds, h1, ho⟩ := bnd_some ho
  obtain ⟨env', h2, ho⟩ := bnd_some ho
  obtain rfl := Option.some.inj ho
  have hl : ∀ (is : List Nat) (ds : List D) (env env' : En), setAll is ds env = some env' → ds.length = is.length := fun is => by
    induction is with
    | nil =>
      intro ds env env' h
      cases ds with
      | nil => rfl
      | cons => cases h
    | cons i is ih =>
      intro ds env env' h
      cases ds with
      | nil => cases h
      | cons d ds => exact congrArg (· + 1) (ih ds _ _ h)
  refine ⟨F, env, R, ds, h1, fun F1 H1 vs g1 r1 => ⟨r1.length.trans (hl _ _ _ _ h2), fun Hx hx => ?_⟩⟩
  have fin : ∀ (Hx : Hp), Grow F H F1 Hx → Ents X.K z.ct H F1 Hx vs ds → E.nx (setV is vs σ) Hx := fun Hx gx rx =>
    p F1 Hx _ g1.f (setAll_ents rx R.gr.h (R.grow gx) (fun j e he ho l hl => by
      obtain ⟨v, w1, w2⟩ := R.ent j e he (fun q => by subst q; cases ho)
      obtain ⟨m, o, rfl, w3, _⟩ := w2.addr ho
      rw [w1] at hl
      injection hl with hl
      injection hl with hl
      injection hl with hl
      subst hl
      rw [w3]
      exact fun q => by cases q) h2)
  rcases hx with rfl | ⟨p', np, rfl⟩
  · exact fin _ g1 r1
  · have g2 := Grow.apart (o := .tup vs) g1.s np
    exact fin _ (g1.trans g2) (r1.grow g2)
theorem s_par2 (i j : Nat) (hp : PS X st (tPar i j (tM X.K z ag))) : PS X st (tS X.K z (iPar [i, j] ag)) := ps_imp hp fun E σ H q => by
  obtain ⟨F, env, R, ds, h1, k⟩ := par_tS E σ H q
  refine ⟨F, env, R, ds, h1, fun F1 H1 vs g1 r1 => ?_⟩
  obtain ⟨hl, w⟩ := k F1 H1 vs g1 r1
  match vs, hl, w with
  | [v, u], _, w => exact ⟨v, u, rfl, w H1 (.inl rfl)⟩
theorem s_par3 (i j l : Nat) (hp : PS X st (tPar3 i j l (tM X.K z ag))) : PS X st (tS X.K z (iPar [i, j, l] ag)) := ps_imp hp fun E σ H q => by
  obtain ⟨F, env, R, ds, h1, k⟩ := par_tS E σ H q
  refine ⟨F, env, R, ds, h1, fun F1 H1 vs g1 r1 => ?_⟩
  obtain ⟨hl, w⟩ := k F1 H1 vs g1 r1
  match vs, hl, w with
  | [v, u, t], _, w => exact ⟨v, u, t, rfl, w H1 (.inl rfl)⟩
theorem gNames_set {Q : L2.St → Hp → Prop} {H : Hp} : ∀ {is : List Nat} {vs : List V} {σ : L2.St}, vs.length = is.length → Q (setV is vs σ) H → gNames is vs σ H Q
  | [], [], σ, _, h => ⟨rfl, h⟩
  | [], _ :: _, _, h, _ => by cases h
  | _ :: _, [], _, h, _ => by cases h
  | i :: is, v :: vs, σ, h, q => ⟨v, vs, rfl, gNames_set (is := is) (vs := vs) (by simpa using h) q⟩
theorem s_parT {is : List Nat} (hlen : is.length ≤ 100) (hp : PS X st (tAsg (tTup (tM X.K z ag)) (gTup X.K is.length (gNames is)))) : PS X st (tS X.K z (iPar is ag)) := ps_imp hp fun E σ H q => by
  obtain ⟨F, env, R, ds, h1, k⟩ := par_tS E σ H q
  refine ⟨F, env, R, ds, h1, fun F1 H1 vs g1 r1 => ?_⟩
  obtain ⟨hl, w⟩ := k F1 H1 vs g1 r1
  refine ⟨by rw [hl]; exact Nat.le_trans hlen (by decide), fun p np => ⟨p, vs, rfl, .inl (.inl upd_same), hl, gNames_set hl (w _ (.inr ⟨p, np, rfl⟩))⟩⟩
end
end
end DK
/-! DK11 -/
set_option Elab.async false
set_option linter.all false
set_option maxRecDepth 100000
set_option maxHeartbeats 1000000
namespace DK
noncomputable section
open PySem PySem.Spec PyProof.Rows L2
open SlX (Slt SlO slH putS Slot1 SIsi)

def lenO : List D → Option D
  | [.lst ds] => some (.int (ds.length : Nat))
  | [.tup ds] => some (.int (ds.length : Nat))
  | [.str l] => if l.length ≤ 1000 then some (.int (l.length : Nat)) else none
  | _ => none
def sumI : List Int → Int
  | [] => 0
  | n :: r => n + sumI r
def maxI : Int → List Int → Int
  | m, [] => m
  | m, n :: r => maxI (if n > m then n else m) r
def minI : Int → List Int → Int
  | m, [] => m
  | m, n :: r => minI (if n < m then n else m) r
def sumL : List D → Option D
  | [.lst ds] => bnd (intsOf ds) fun ns => some (.int (sumI ns))
  | _ => none
def sumT : List D → Option D
  | [.tup ds] => bnd (intsOf ds) fun ns => some (.int (sumI ns))
  | _ => none
def maxN : List Int → Option D
  | [] => none
  | n :: r => some (.int (maxI n r))
def minN : List Int → Option D
  | [] => none
  | n :: r => some (.int (minI n r))
def maxL : List D → Option D
  | [.lst ds] => bnd (intsOf ds) maxN
  | _ => none
def minL : List D → Option D
  | [.lst ds] => bnd (intsOf ds) minN
  | _ => none
def blsOf : List D → Option (List Bool)
  | [] => some []
  | .bl b :: ds => bnd (blsOf ds) fun bs => some (b :: bs)
  | _ => none
def allL : List D → Option D
  | [.lst ds] => bnd (blsOf ds) fun bs => some (.bl (bs.all id))
  | _ => none
def gcdO : List D → Option D
  | [.int a, .int b] => some (.int ((Nat.gcd a.natAbs b.natAbs : Nat) : Int))
  | _ => none
def tupO : List D → Option D
  | [.lst ds] => some (.tup ds)
  | [.tup ds] => some (.tup ds)
  | _ => none
def lstO : List D → Option (List D)
  | [.lst ds] => some ds
  | [.tup ds] => some ds
  | _ => none
def insI (n : Int) : List Int → List Int
  | [] => [n]
  | m :: r => if n ≤ m then n :: m :: r else m :: insI n r
def srtI : List Int → List Int
  | [] => []
  | n :: r => insI n (srtI r)
def srtL : List D → Option (List D)
  | [.lst ds] => bnd (intsOf ds) fun ns => some ((srtI ns).map .int)
  | _ => none
def cntN (c : Nat) (l : List Nat) : Nat := @List.rec Nat (fun _ => Nat) 0 (fun x _ ih => @Bool.rec (fun _ => Nat) ih (Nat.succ ih) (Nat.beq x c)) l
theorem cntN_cons (c x : Nat) (r : List Nat) : cntN c (x :: r) = if x = c then cntN c r + 1 else cntN c r := by
  show @Bool.rec (fun _ => Nat) (cntN c r) (Nat.succ (cntN c r)) (Nat.beq x c) = _
  cases q : Nat.beq x c with
  | false => rw [if_neg (Nat.ne_of_beq_eq_false q)]
  | true => rw [if_pos (Nat.eq_of_beq_eq_true q)]
def cntD : D → D → Option D
  | .str l, .str [c] => some (.int (cntN c l : Nat))
  | _, _ => none
theorem cntD_some {x y d : D} (h : cntD x y = some d) : ∃ l c, x = .str l ∧ y = .str [c] ∧ d = .int (cntN c l : Nat) := by
  unfold cntD at h
  split at h
  · exact ⟨_, _, rfl, rfl, (Option.some.inj h).symm⟩
  · cases h
theorem sumI_sum (ns : List Int) : sumI ns = ns.sum := by
  induction ns with
  | nil => rfl
  | cons n r ih => rw [sumI, ih, List.sum_cons]
theorem maxI_ge : ∀ (r : List Int) (m : Int), m ≤ maxI m r ∧ (∀ y ∈ r, y ≤ maxI m r) ∧ (maxI m r = m ∨ maxI m r ∈ r)
  | [], m => ⟨Int.le_refl _, fun _ h => by simp at h, .inl rfl⟩
  | n :: r, m => by
    have ih := maxI_ge r (if n > m then n else m)
    rw [maxI]
    have a1 : m ≤ (if n > m then n else m) := by split <;> omega
    have a2 : n ≤ (if n > m then n else m) := by split <;> omega
    refine ⟨Int.le_trans a1 ih.1, fun y hy => ?_, ?_⟩
    · rcases List.mem_cons.mp hy with rfl | hy
      · exact Int.le_trans a2 ih.1
      · exact ih.2.1 y hy
    · rcases ih.2.2 with q | q
      · rw [q]
        split
        · exact .inr List.mem_cons_self
        · exact .inl rfl
      · exact .inr (List.mem_cons_of_mem _ q)
theorem minI_le : ∀ (r : List Int) (m : Int), minI m r ≤ m ∧ (∀ y ∈ r, minI m r ≤ y) ∧ (minI m r = m ∨ minI m r ∈ r)
  | [], m => ⟨Int.le_refl _, fun _ h => by simp at h, .inl rfl⟩
  | n :: r, m => by
    have ih := minI_le r (if n < m then n else m)
    rw [minI]
    have a1 : (if n < m then n else m) ≤ m := by split <;> omega
    have a2 : (if n < m then n else m) ≤ n := by split <;> omega
    refine ⟨Int.le_trans ih.1 a1, fun y hy => ?_, ?_⟩
    · rcases List.mem_cons.mp hy with rfl | hy
      · exact Int.le_trans ih.1 a2
      · exact ih.2.1 y hy
    · rcases ih.2.2 with q | q
      · rw [q]
        split
        · exact .inr List.mem_cons_self
        · exact .inl rfl
      · exact .inr (List.mem_cons_of_mem _ q)
theorem maxN_is {ns : List Int} {d : D} {m : Int} (h : maxN ns = some d) (hm : m ∈ ns) (hle : ∀ y ∈ ns, y ≤ m) : d = .int m := by
  cases ns with
  | nil => cases h
  | cons n r =>
    obtain rfl := Option.some.inj h
    obtain ⟨a, b, c⟩ := maxI_ge r n
    have e : maxI n r = m := by
      apply Int.le_antisymm
      · rcases c with c | c
        · rw [c]
          exact hle n List.mem_cons_self
        · exact hle _ (List.mem_cons_of_mem _ c)
      · rcases List.mem_cons.mp hm with rfl | hm
        · exact a
        · exact b m hm
    rw [e]
theorem minN_is {ns : List Int} {d : D} {m : Int} (h : minN ns = some d) (hm : m ∈ ns) (hle : ∀ y ∈ ns, m ≤ y) : d = .int m := by
  cases ns with
  | nil => cases h
  | cons n r =>
    obtain rfl := Option.some.inj h
    obtain ⟨a, b, c⟩ := minI_le r n
    have e : minI n r = m := by
      apply Int.le_antisymm
      · rcases List.mem_cons.mp hm with rfl | hm
        · exact a
        · exact b m hm
      · rcases c with c | c
        · rw [c]
          exact hle n List.mem_cons_self
        · exact hle _ (List.mem_cons_of_mem _ c)
    rw [e]
theorem insI_perm (n : Int) : ∀ r, (insI n r).Perm (n :: r)
  | [] => .refl _
  | m :: r => by
    rw [insI]
    split
    · exact .refl _
    · exact ((insI_perm n r).cons m).trans (List.Perm.swap n m r)
theorem srtI_perm : ∀ ns, (srtI ns).Perm ns
  | [] => .refl _
  | n :: r => (insI_perm n _).trans ((srtI_perm r).cons n)
theorem insI_pair (n : Int) : ∀ r, r.Pairwise (· ≤ ·) → (insI n r).Pairwise (· ≤ ·)
  | [], _ => List.pairwise_singleton _ _
  | m :: r, h => by
    rw [insI]
    have h := List.pairwise_cons.mp h
    split
    · next hle =>
      refine List.pairwise_cons.mpr ⟨fun y hy => ?_, List.pairwise_cons.mpr h⟩
      rcases List.mem_cons.mp hy with rfl | hy
      · exact hle
      · exact Int.le_trans hle (h.1 y hy)
    · next hle =>
      refine List.pairwise_cons.mpr ⟨fun y hy => ?_, insI_pair n r h.2⟩
      rcases List.mem_cons.mp ((insI_perm n r).mem_iff.mp hy) with rfl | hy
      · omega
      · exact h.1 y hy
theorem srtI_pair : ∀ ns, (srtI ns).Pairwise (· ≤ ·)
  | [] => .nil
  | n :: r => insI_pair n _ (srtI_pair r)
theorem srtI_is {ns ms : List Int} (h : ms.Perm ns) (p : ms.Pairwise (· ≤ ·)) : ms = srtI ns := PySem.W.ksm_same (h.trans (srtI_perm ns).symm) p (srtI_pair ns)
theorem cntN_is (c : Nat) (l : List Nat) : PyProof.Rows.cnt c l = (cntN c l : Nat) := by
  induction l with
  | nil => rfl
  | cons x r ih =>
    rw [cntN_cons]
    rw [PyProof.Rows.cnt_cons, ih]
    split <;> omega

section
variable {X : Cx} {z : Zc} {f g h : En → Option D} {e a b : Expr} {es : List Expr} {pos : Pos} {k : Nat}
theorem cl_len : ClD X.K z (fun xs H Q => (∃ p ys, xs = [.ref p] ∧ (SqL X.K H p ys ∨ SqT X.K H p ys) ∧ Q (.int ys.length) H) ∨ ∃ z, xs = [.str z] ∧ z.length ≤ sizeLine ∧ Q (.int z.length) H) lenO := fun F H xs ds d Q s hd r k => by
  unfold lenO at hd
  split at hd
  · obtain rfl := Option.some.inj hd
    cases r with
    | cons r t =>
      cases t
      cases r with
      | lst h1 h2 => exact .inl ⟨_, _, rfl, .inl (.inl (.inl (s _ _ h1))), k F H _ (.refl s) (by rw [h2.length]; exact .int _)⟩
  · obtain rfl := Option.some.inj hd
    cases r with
    | cons r t =>
      cases t
      cases r with
      | tup h1 h2 => exact .inl ⟨_, _, rfl, .inr (.inl (.inl (s _ _ h1))), k F H _ (.refl s) (by rw [h2.length]; exact .int _)⟩
  · split at hd
    · next l hl =>
      obtain rfl := Option.some.inj hd
      cases r with
      | cons r t =>
        cases t
        have e : (⟨l.toArray⟩ : Str).length = l.length := List.size_toArray
        refine .inr ⟨⟨l.toArray⟩, by rw [rep_str r], ?_, ?_⟩
        · rw [e]
          exact Nat.le_trans hl (by decide)
        · rw [e]
          exact k F H _ (.refl s) (.int _)
    · cases hd
  · cases hd
theorem one_ints {K : PySem.W.Frag} {ct : Nat → Addr} {F : Hp} {xs : List V} {ns : List Int} (r : Reps K ct F xs [.lst (ns.map .int)]) : ∃ p, xs = [.ref p] ∧ F p = some (.lst (ns.map V.int)) := by
  cases r with
  | cons r t =>
    cases t
    cases r with
    | lst h1 h2 =>
      obtain rfl := reps_ints h2
      exact ⟨_, rfl, h1⟩
theorem one_intsT {K : PySem.W.Frag} {ct : Nat → Addr} {F : Hp} {xs : List V} {ns : List Int} (r : Reps K ct F xs [.tup (ns.map .int)]) : ∃ p, xs = [.ref p] ∧ F p = some (.tup (ns.map V.int)) := by
  cases r with
  | cons r t =>
    cases t
    cases r with
    | tup h1 h2 =>
      obtain rfl := reps_ints h2
      exact ⟨_, rfl, h1⟩
theorem cl_sum : ClD X.K z (rSum X.K) sumL := fun F H xs ds d Q s hd r k => by
  unfold sumL at hd
  split at hd
  · obtain ⟨ns, h1, hd⟩ := bnd_some hd
    obtain rfl := Option.some.inj hd
    obtain rfl := ints_eq h1
    obtain ⟨p, rfl, h2⟩ := one_ints r
    exact ⟨p, ns, rfl, .inl (.inl (s _ _ h2)), by rw [← sumI_sum]; exact k F H _ (.refl s) (.int _)⟩
  · cases hd
theorem cl_max : ClD X.K z (rMax X.K) maxL := fun F H xs ds d Q s hd r k => by
  unfold maxL at hd
  split at hd
  · obtain ⟨ns, h1, hn⟩ := bnd_some hd
    obtain rfl := ints_eq h1
    obtain ⟨p, rfl, h2⟩ := one_ints r
    refine ⟨p, ns, rfl, .inl (.inl (s _ _ h2)), ?_, fun m hm hle => ?_⟩
    · cases ns with
      | nil => cases hn
      | cons => exact Nat.succ_pos _
    · rw [maxN_is hn hm hle] at k
      exact k F H _ (.refl s) (.int _)
  · cases hd
theorem cl_min : ClD X.K z (rMin X.K) minL := fun F H xs ds d Q s hd r k => by
  unfold minL at hd
  split at hd
  · obtain ⟨ns, h1, hn⟩ := bnd_some hd
    obtain rfl := ints_eq h1
    obtain ⟨p, rfl, h2⟩ := one_ints r
    refine ⟨p, ns, rfl, .inl (.inl (s _ _ h2)), ?_, fun m hm hle => ?_⟩
    · cases ns with
      | nil => cases hn
      | cons => exact Nat.succ_pos _
    · rw [minN_is hn hm hle] at k
      exact k F H _ (.refl s) (.int _)
  · cases hd
theorem bls_eq : ∀ {ds : List D} {bs : List Bool}, blsOf ds = some bs → ds = bs.map .bl
  | [], ns, h => by
    obtain rfl := Option.some.inj h
    rfl
  | d :: ds, ns, h => by
    cases d <;> first | (cases h; done) | skip
    obtain ⟨ms, h1, h2⟩ := bnd_some h
    obtain rfl := Option.some.inj h2
    rw [bls_eq h1]
    rfl
theorem reps_bls {K : PySem.W.Frag} {ct : Nat → Addr} {F : Hp} : ∀ {ns : List Bool} {xs : List V}, Reps K ct F xs (ns.map .bl) → xs = ns.map V.bl
  | [], _, .nil => rfl
  | n :: ns, _, .cons r t => by
    rw [rep_bl r, reps_bls t]
    rfl
theorem cl_all : ClD X.K z (rAll X.K) allL := fun F H xs ds d Q s hd r k => by
  unfold allL at hd
  split at hd
  · obtain ⟨bs, h1, hd⟩ := bnd_some hd
    obtain rfl := Option.some.inj hd
    obtain rfl := bls_eq h1
    cases r with
    | cons r t =>
      cases t
      cases r with
      | lst h2 h3 =>
        obtain rfl := reps_bls h3
        exact ⟨_, bs, rfl, .inl (.inl (s _ _ h2)), k F H _ (.refl s) (.bl _)⟩
  · cases hd
theorem cl_gcd : ClD X.K z rGcd gcdO := fun F H xs ds d Q s hd r k => by
  unfold gcdO at hd
  split at hd
  · obtain rfl := Option.some.inj hd
    cases r with
    | cons r t =>
      cases t with
      | cons r2 t =>
        cases t
        exact ⟨_, _, by rw [rep_int r, rep_int r2], k F H _ (.refl s) (.int _)⟩
  · cases hd
theorem cl_tup : ClD X.K z (fun xs H Q => ∃ p ys, xs = [.ref p] ∧ ((SqL X.K H p ys ∧ ∀ l, H l = none → Q (.ref l) (upd H l (.tup ys))) ∨ (SqT X.K H p ys ∧ Q (.ref p) H))) tupO := fun F H xs ds d Q s hd r k => by
  unfold tupO at hd
  split at hd
  · obtain rfl := Option.some.inj hd
    cases r with
    | cons r t =>
      cases t
      cases r with
      | lst h1 h2 =>
        refine ⟨_, _, rfl, .inl ⟨.inl (.inl (s _ _ h1)), fun l nl => ?_⟩⟩
        exact k _ _ _ (Grow.new s nl) (.tup upd_same (h2.mono (Grow.new s nl).f))
  · obtain rfl := Option.some.inj hd
    cases r with
    | cons r t =>
      cases t
      cases r with
      | tup h1 h2 => exact ⟨_, _, rfl, .inr ⟨.inl (.inl (s _ _ h1)), k F H _ (.refl s) (.tup h1 h2)⟩⟩
  · cases hd
theorem cl_lst : ClF X.K z (fun xs H Q => ∃ p ys, xs = [.ref p] ∧ (SqL X.K H p ys ∨ SqT X.K H p ys) ∧ ∀ l, H l = none → Q (.ref l) (upd H l (.lst ys))) lstO := fun F H xs ds d Q s hd r k => by
  unfold lstO at hd
  split at hd
  · obtain rfl := Option.some.inj hd
    cases r with
    | cons r t =>
      cases t
      cases r with
      | lst h1 h2 => exact ⟨_, _, rfl, .inl (.inl (.inl (s _ _ h1))), fun l nl => k F _ l _ (.apart s nl) nl upd_same (s.free nl) h2⟩
  · obtain rfl := Option.some.inj hd
    cases r with
    | cons r t =>
      cases t
      cases r with
      | tup h1 h2 => exact ⟨_, _, rfl, .inr (.inl (.inl (s _ _ h1))), fun l nl => k F _ l _ (.apart s nl) nl upd_same (s.free nl) h2⟩
  · cases hd
theorem cl_srt : ClF X.K z (rSortedI X.K) srtL := fun F H xs ds d Q s hd r k => by
  unfold srtL at hd
  split at hd
  · obtain ⟨ns, h1, hd⟩ := bnd_some hd
    obtain rfl := Option.some.inj hd
    obtain rfl := ints_eq h1
    obtain ⟨p, rfl, h2⟩ := one_ints r
    refine ⟨p, ns, rfl, .inl (.inl (s _ _ h2)), fun ms l hp hw nl => ?_⟩
    rw [srtI_is hp hw]
    exact k F _ l _ (.apart s nl) nl upd_same (s.free nl) ints_reps
  · cases hd
theorem d_count (p : PE X e (tBM X.K "str" (fun x xs H Q => ∃ a b, x = .str a ∧ xs = [.str b] ∧ Q (.int (Txt.count a b)) H) (tD X.K z f) (tCons (tD X.K z g) tNil))) : PE X e (tD X.K z (b2 cntD f g)) := pe_imp p fun σ H Q ⟨F, env, E, d, hd, k⟩ => by
  obtain ⟨d1, h1, hd⟩ := bnd_some hd
  obtain ⟨d2, h2, hd⟩ := bnd_some hd
  refine ⟨F, env, E, d1, h1, fun F1 H1 x g1 r1 => ?_⟩
  obtain ⟨l, c, rfl, rfl, rfl⟩ := cntD_some hd
  rw [rep_str r1]
  refine ⟨rfl, F1, env, E.grow g1, _, h2, fun F2 H2 y g2 r2 => ⟨⟨l.toArray⟩, ⟨#[c]⟩, rfl, by rw [rep_str r2], ?_⟩⟩
  rw [PyProof.Rows.count_cnt]
  show Q (.int (PyProof.Rows.cnt c l.toArray.toList)) H2
  rw [cntN_is]
  exact k F2 H2 _ (g1.trans g2) (.int _)
end
end
end DK
/-! DK12 -/
set_option Elab.async false
set_option linter.all false
set_option maxRecDepth 100000
set_option maxHeartbeats 1000000
/-! sum, max, sorted of tuples; comb; what is walked, whatever it is. -/
namespace DKT
open PySem PySem.Spec PySem.Calls PyProof.Rows
section
variable {prog : Program} {w : World} {A : Around} {E : Value → Shared → Prop} {s : Shared}
theorem collect_tup {l : Addr} {vs : List Value} {Q : List Value → Shared → Prop} (hl : s.heap.IsTuple l vs.toArray) (hsz : vs.length ≤ sizeLine)
    (h : Q vs { s with heap := (s.heap.push (seqObj "list" #[] 0)).update s.heap.objs.size (Obj.mapSeq (· ++ vs.toArray)) }) : wpAny (model prog w) A (collect (.ref l)) Q E s := by
  obtain ⟨o, ho, hc, n, hd⟩ := id hl
  unfold collect
  refine wpAny_bind (wpAny_runValue (codeAny_builtin entry_proto_collect' ?_))
  show wpAny _ _ (do again (.builtin "list.__iadd__" ⟨[← newList [], .ref l], []⟩)) _ _ s
  refine wpAny_bind (wpAny_newList (wpAny_pure ⟨Code.quiet_builtin _ (by decide +kernel), codeAny_builtin entry_list_iadd' ?_⟩))
  show wpAny _ _ (Builtin.List.listExtendWith (.ref s.heap.objs.size) (.ref l) (.ref s.heap.objs.size)) _ _ { s with heap := s.heap.push (seqObj "list" #[] 0) }
  unfold Builtin.List.listExtendWith
  have ho' := Heap.get?_push_of_some (seqObj "list" #[] 0) ho
  refine wpAny_bind (wpAny_typeOf (T := "tuple") ⟨o, ho', hc⟩ ?_)
  rw [if_pos (by rw [show (Value.type "tuple" == Value.type "tuple") = true by rfl]; simp)]
  refine wpAny_bind (listItems_at ho' hd (wpAny_bind (listItems_at (xs := #[]) (n := 0) (Heap.get?_push_size _ rfl) rfl ?_)))
  rw [if_neg (by simp)]
  refine wpAny_bind (listUpdate_at (xs := #[]) (n := 0) (Heap.get?_push_size _ rfl) rfl (wpAny_pure ?_) (Nat.zero_le _) (by show (#[] ++ vs.toArray).size ≤ sizeLine + 1; simp only [Array.size_append, List.size_toArray, List.length_nil]; omega))
  show wpAny _ A (load s.heap.objs.size >>= _) _ _ _
  refine wpAny_bind (wpAny_load (get?_update_seq (Heap.get?_push_size _ rfl) _) ?_)
  show wpAny _ _ (pure ((#[] : Array Value) ++ vs.toArray).toList) Q E _
  rw [show ((#[] : Array Value) ++ vs.toArray).toList = vs by simp]
  exact wpAny_pure h
end
end DKT
namespace DK
noncomputable section
open PySem PySem.Spec PyProof.Rows L2
open SlX (Slt SlO slH putS Slot1 SIsi)
section
variable {X : Cx}
def rSumT (K : PySem.W.Frag) : List V → Hp → VK → Prop := fun vs H Q => ∃ (a : Addr) (ns : List Int), vs = [V.ref a] ∧ SqT K H a (ns.map V.int) ∧ Q (.int ns.sum) H
theorem cr_sumT (hc : X.calm = true) : CallR X (.builtin "sum") (rSumT X.K) := by
  intro pins s σ H vs us Q I r h
  obtain ⟨a, ns, rfl, hs, q⟩ := h
  obtain ⟨its, rv, hl, _⟩ := I.tuple hs
  rw [Vals.ref1 r]
  obtain ⟨xs, e⟩ := rv.ints.allInts.items
  have hn : numsOf (intItems xs).toList = ns := by rw [← e]; exact rv.ints.numsOf
  rw [nums_intItems] at hn
  have hl : s.heap.IsTuple a its.toArray := hl
  rw [e] at hl
  refine PySem.W.ktm_sumG (I.ok.hd hc) hl fun h' tk t' hk => ⟨.int _, H, I.kept hk, ⟨_, rfl⟩, ?_⟩
  rw [preSum_eq, List.take_of_length_le (by simp), hn]
  exact q
theorem alikes (ns : List Int) : PySem.W.AlikeAll (ns.map .int) := by
  refine ⟨fun x hx y hy => ?_, fun x hx => ?_⟩
  · obtain ⟨i, _, rfl⟩ := List.mem_map.mp hx
    obtain ⟨j, _, rfl⟩ := List.mem_map.mp hy
    rfl
  · obtain ⟨i, _, rfl⟩ := List.mem_map.mp hx
    exact fun q => by cases q
theorem reads_ints {h : Heap} : ∀ {ns : List Int} {us : List Value}, Vals (ns.map V.int) us → ∃ as, ReadsAll h us (ns.map .int) as
  | [], _, .nil => ⟨_, .nil⟩
  | n :: ns, _, .cons r t => by
    obtain ⟨u, rfl⟩ := r
    obtain ⟨as, q⟩ := reads_ints t
    exact ⟨_, .cons (.int _ _) q⟩
def rMaxT (K : PySem.W.Frag) : List V → Hp → VK → Prop := fun vs H Q => ∃ (a : Addr) (n : Int) (ns : List Int), vs = [V.ref a] ∧ SqT K H a ((n :: ns).map V.int) ∧ Q (.int (ns.foldl max n)) H
theorem cr_maxT (hc : X.calm = true) (hu : X.A.units + 64 < cLine) : CallR X (.builtin "max") (rMaxT X.K) := by
  intro pins s σ H vs us Q I r h
  obtain ⟨a, n, ns, rfl, hs, q⟩ := h
  obtain ⟨its, rv, hl, _⟩ := I.tuple hs
  rw [Vals.ref1 r]
  obtain ⟨as, hr⟩ := reads_ints (h := s.heap) rv
  refine PySem.W.max_tuple_data (I.ok.hd hc) (show s.heap.IsTuple a its.toArray from hl) hr (alikes (n :: ns)) ?_ fun i v h' tk bs hv hrd hk => ?_
  · have e : PyData.depthAll ((n :: ns).map PyData.int) = 0 := PySem.W.depth_ints _
    show X.A.units + 1 + PyData.depthAll ((n :: ns).map PyData.int) < cLine
    rw [e]
    omega
  · rw [PySem.W.maxD_ints] at hrd
    cases hrd
    exact ⟨.int _, H, I.kept hk, ⟨_, rfl⟩, q⟩
def rMaxD (K : PySem.W.Frag) : List V → List V → Hp → VK → Prop := fun vs zs H Q => ∃ (a : Addr) (ns : List Int) (d : Int), vs = [V.ref a] ∧ zs = [V.int d] ∧ SqL K H a (ns.map V.int) ∧ Q (.int (match ns with | [] => d | n :: r => r.foldl max n)) H
theorem cr_maxD (hc : X.calm = true) (hu : X.A.units + 64 < cLine) : CallRK X (.builtin "max") [Str.ofString "default"] (rMaxD X.K) := by
  intro pins s σ H vs zs us ws Q I r r2 h
  obtain ⟨a, ns, d, rfl, rfl, hs, q⟩ := h
  obtain ⟨its, rv, hl, _⟩ := I.list hs
  rw [Vals.ref1 r]
  cases r2 with
  | cons r2 t =>
    cases t
    obtain ⟨t, rfl⟩ := r2
    obtain ⟨as, hr⟩ := reads_ints (h := s.heap) rv
    refine PySem.W.max_list_default (I.ok.hd hc) hl.isList hr (alikes ns) ?_ (fun e h' tk hk => ?_) fun y ys i v h' tk bs e hv hrd hk => ?_
    · rw [PySem.W.depth_ints]
      omega
    · cases ns with
      | nil => exact ⟨.int _, H, I.kept hk, ⟨_, rfl⟩, q⟩
      | cons => cases e
    · cases ns with
      | nil => cases e
      | cons n ns =>
        rw [List.map_cons] at e
        injection e with e1 e2
        subst e1
        subst e2
        rw [PySem.W.maxD_ints] at hrd
        cases hrd
        exact ⟨.int _, H, I.kept hk, ⟨_, rfl⟩, q⟩
/-- sorted(t), ints -/
def rSortedT (K : PySem.W.Frag) : List V → Hp → VK → Prop := fun vs H Q => ∃ (a : Addr) (ns : List Int), vs = [V.ref a] ∧ SqT K H a (ns.map V.int) ∧ ∀ (ns' : List Int) (p : Addr), ns'.Perm ns → ns'.Pairwise (· ≤ ·) → H p = none → Q (.ref p) (upd H p (.lst (ns'.map V.int)))
theorem cr_sortedT : CallR X (.builtin "sorted") (rSortedT X.K) := by
  intro pins s σ H vs us Q I r h
  obtain ⟨a, ns, rfl, hs, q⟩ := h
  obtain ⟨its, rv, hl, hz⟩ := I.tuple hs
  rw [Vals.ref1 r]
  have hi := rv.ints
  have hz : its.length ≤ sizeLine := by rw [← rv.length]; exact hz
  refine PySem.Calls.call_function_entry PyProof.Rows.kind_sorted PyProof.Rows.plain_sorted PyProof.Rows.entry_sorted (PyProof.Rows.args_sorted1 _) ?_
  unfold Builtin.«sorted»
  refine wpAny_bind (m := PySem.checkCount "sorted" 1 1 _) (wpAny_pure ?_)
  refine wpAny_bind (DKT.collect_tup hl hz (wpAny_bind (wpAny_newList ?_ hz)))
  have h0 := Heap.get?_push_size s.heap (o := seqObj "list" #[] 0)
  have hsz : ((s.heap.push (seqObj "list" #[] 0)).update s.heap.objs.size (Obj.mapSeq (· ++ its.toArray))).objs.size = s.heap.objs.size + 1 := by rw [Heap.size_update, Heap.size_push]
  have hoL : (((s.heap.push (seqObj "list" #[] 0)).update s.heap.objs.size (Obj.mapSeq (· ++ its.toArray))).push (seqObj "list" its.toArray 0)).get? (s.heap.objs.size + 1) = some (seqObj "list" its.toArray 0) := hsz ▸ Heap.get?_push_size _ rfl
  show wpAny _ _ _ _ _ { s with heap := ((s.heap.push (seqObj "list" #[] 0)).update s.heap.objs.size (Obj.mapSeq (· ++ its.toArray))).push (seqObj "list" its.toArray 0) }
  rw [hsz]
  refine wpAny_bind (wpAny_holding (wpAny_call_entry PyProof.Rows.slot_list_sort ⟨_, hoL, rfl⟩ PyProof.Rows.entry_list_sort (SrtO.list_sort_ord SrtO.swo_int hoL hz (fun h2 => SrtO.ints_sortable hi h2) fun out h1 h2 => ⟨_, rfl, ?_⟩) (PyProof.Rows.args_list_sort _)))
  obtain ⟨k1, k2, k3⟩ := SrtO.ints_out hi h1 h2
  obtain ⟨ep, he'⟩ := PyProof.Rows.sortedAll_at s.heap its out.toArray
  have hlen : ((out.map SrtO.iv).map V.int).length ≤ sizeLine := by
    rw [List.length_map, k2.length_eq, ← hi.length]
    exact hz
  exact wpAny_pure ⟨_, rfl, .ref _, L2.upd H (s.heap.objs.size + 1) (.lst ((out.map SrtO.iv).map V.int)), I.laid (t' := s.toks) (fun _ _ => PyProof.Rows.sortedAll_old) (Nat.le_succ _) ⟨hlen, out, ep, vals_of_ints k1, he'⟩, rfl, q _ _ k2 k3 (I.hok.fresh (Nat.le_succ _))⟩
end
end
end DK
/-! DK13 -/
set_option Elab.async false
set_option linter.all false
set_option maxRecDepth 100000
set_option maxHeartbeats 1000000
namespace DK
noncomputable section
open PySem PySem.Spec PyProof.Rows L2
open SlX (Slt SlO slH putS Slot1 SIsi)

def seqOf : D → Option (List D)
  | .lst ds => some ds
  | .tup ds => some ds
  | _ => none
def itemsOf : D → Option (List D)
  | .lst ds => some ds
  | .tup ds => some ds
  | .str l => some (l.map fun c => .str [c])
  | _ => none
def sumO : List D → Option D
  | [d] => bnd (seqOf d) fun ds => bnd (intsOf ds) fun ns => some (.int (sumI ns))
  | _ => none
def maxO : List D → Option D
  | [d] => bnd (seqOf d) fun ds => bnd (intsOf ds) maxN
  | _ => none
def srtO : List D → Option (List D)
  | [d] => bnd (seqOf d) fun ds => bnd (intsOf ds) fun ns => some ((srtI ns).map .int)
  | _ => none
def combO : List D → Option D
  | [.int (.ofNat a), .int (.ofNat b)] => if a < 1000 ∧ b < 1000 then some (.int (PySem.W.mcComb (a : Int) (b : Int))) else none
  | _ => none
def maxDD (f : En → Option D) (g : En → Option D) (env : En) : Option D := bnd (f env) fun d => bnd (g env) fun e => match d, e with
  | .lst ds, .int x => bnd (intsOf ds) fun ns => some (.int (match ns with | [] => x | n :: r => maxI n r))
  | _, _ => none
def mulS : D → D → Option D
  | .str [c], .int (.ofNat n) => if n ≤ 500 then some (.str (List.replicate n c)) else none
  | _, _ => none
def aStar (f : En → Option D) (g : En → Option (List D)) (env : En) : Option (List D) := bnd (f env) fun d => bnd (seqOf d) fun ds => bnd (g env) fun r => some (ds ++ r)
def catF (f g : En → Option D) (env : En) : Option (List D) := bnd (f env) fun a => bnd (g env) fun b => match a, b with
  | .lst ds, .lst es => small (ds ++ es)
  | _, _ => none
theorem maxI_fold : ∀ (r : List Int) (m : Int), maxI m r = r.foldl max m
  | [], _ => rfl
  | n :: r, m => by
    rw [maxI, List.foldl_cons, maxI_fold r]
    congr 1
    omega
theorem repN (c : Nat) : ∀ (n : Nat) (acc : Array Nat), (List.replicate n #[c]).foldl (· ++ ·) acc = acc ++ (List.replicate n c).toArray
  | 0, acc => by simp
  | n + 1, acc => by
    rw [List.replicate_succ, List.foldl_cons, repN c n, List.replicate_succ]
    apply Array.ext'
    simp
section
variable {X : Cx} {z : Zc} {f g h : En → Option D} {ag : En → Option (List D)} {e a b tg : Expr} {es : List Expr} {pos : Pos} {k : Nat}
theorem one_seq {K : PySem.W.Frag} {ct : Nat → Addr} {F : Hp} {xs : List V} {d : D} {ns : List Int} (r : Reps K ct F xs [d]) (h : seqOf d = some (ns.map .int)) : ∃ p, xs = [.ref p] ∧ (F p = some (.lst (ns.map V.int)) ∨ F p = some (.tup (ns.map V.int))) := by
  cases d <;> first | (cases h; done) | skip
  · obtain rfl := Option.some.inj h
    obtain ⟨p, q1, q2⟩ := one_intsT r
    exact ⟨p, q1, .inr q2⟩
  · obtain rfl := Option.some.inj h
    obtain ⟨p, q1, q2⟩ := one_ints r
    exact ⟨p, q1, .inl q2⟩
theorem cr_sumO (hc : X.calm = true) : CallR X (.builtin "sum") fun vs H Q => rSum X.K vs H Q ∨ rSumT X.K vs H Q := (cr_sum hc).or (cr_sumT hc)
theorem cl_sumO : ClD X.K z (fun vs H Q => rSum X.K vs H Q ∨ rSumT X.K vs H Q) sumO := fun F H xs ds d Q s hd r k => by
  unfold sumO at hd
  split at hd
  · obtain ⟨ds, h1, hd⟩ := bnd_some hd
    obtain ⟨ns, h2, hd⟩ := bnd_some hd
    obtain rfl := Option.some.inj hd
    obtain rfl := ints_eq h2
    obtain ⟨p, rfl, h3⟩ := one_seq r h1
    have q := k F H _ (.refl s) (.int _)
    rw [sumI_sum] at q
    rcases h3 with h3 | h3
    · exact .inl ⟨p, ns, rfl, .inl (.inl (s _ _ h3)), q⟩
    · exact .inr ⟨p, ns, rfl, .inl (.inl (s _ _ h3)), q⟩
  · cases hd
theorem cr_maxO (hc : X.calm = true) (hr : Room k X.A) : CallR X (.builtin "max") fun vs H Q => rMax X.K vs H Q ∨ rMaxT X.K vs H Q := (cr_max hc).or (cr_maxT hc hr.units)
theorem cl_maxO : ClD X.K z (fun vs H Q => rMax X.K vs H Q ∨ rMaxT X.K vs H Q) maxO := fun F H xs ds d Q s hd r k => by
  unfold maxO at hd
  split at hd
  · obtain ⟨ds, h1, hd⟩ := bnd_some hd
    obtain ⟨ns, h2, hn⟩ := bnd_some hd
    obtain rfl := ints_eq h2
    obtain ⟨p, rfl, h3⟩ := one_seq r h1
    rcases h3 with h3 | h3
    · refine .inl ⟨p, ns, rfl, .inl (.inl (s _ _ h3)), ?_, fun m hm hle => ?_⟩
      · cases ns with
        | nil => cases hn
        | cons => exact Nat.succ_pos _
      · rw [maxN_is hn hm hle] at k
        exact k F H _ (.refl s) (.int _)
    · cases ns with
      | nil => cases hn
      | cons n ns =>
        obtain rfl := Option.some.inj hn
        refine .inr ⟨p, n, ns, rfl, .inl (.inl (s _ _ h3)), ?_⟩
        rw [← maxI_fold]
        exact k F H _ (.refl s) (.int _)
  · cases hd
theorem cr_srtO : CallR X (.builtin "sorted") fun vs H Q => rSortedI X.K vs H Q ∨ rSortedT X.K vs H Q := cr_sortedI.or cr_sortedT
theorem cl_srtO : ClF X.K z (fun vs H Q => rSortedI X.K vs H Q ∨ rSortedT X.K vs H Q) srtO := fun F H xs ds d Q s hd r k => by
  unfold srtO at hd
  split at hd
  · obtain ⟨ds, h1, hd⟩ := bnd_some hd
    obtain ⟨ns, h2, hd⟩ := bnd_some hd
    obtain rfl := Option.some.inj hd
    obtain rfl := ints_eq h2
    obtain ⟨p, rfl, h3⟩ := one_seq r h1
    rcases h3 with h3 | h3
    · refine .inl ⟨p, ns, rfl, .inl (.inl (s _ _ h3)), fun ms l hp hw nl => ?_⟩
      rw [srtI_is hp hw]
      exact k F _ l _ (.apart s nl) nl upd_same (s.free nl) ints_reps
    · refine .inr ⟨p, ns, rfl, .inl (.inl (s _ _ h3)), fun ms l hp hw nl => ?_⟩
      rw [srtI_is hp hw]
      exact k F _ l _ (.apart s nl) nl upd_same (s.free nl) ints_reps
  · cases hd
def rComb : List V → Hp → VK → Prop := fun vs H Q => ∃ a b : Int, vs = [.int a, .int b] ∧ 0 ≤ a ∧ 0 ≤ b ∧ a < 1000 ∧ b < 1000 ∧ Q (.int (PySem.W.mcComb a b)) H
theorem cr_comb : CallR X (.builtin "math.comb") rComb := by
  intro pins s σ H vs us Q I r h
  obtain ⟨a, b, rfl, ha, hb, ha2, hb2, q⟩ := h
  obtain ⟨t, u, rfl⟩ := Vals.int2 r
  exact PySem.W.mc_comb ha hb (by omega) (.inl (by omega)) fun _ => ⟨.int _, H, I.tok _, ⟨_, rfl⟩, q⟩
theorem cl_comb : ClD X.K z rComb combO := fun F H xs ds d Q s hd r k => by
  unfold combO at hd
  split at hd
  · split at hd
    · next hc =>
      obtain rfl := Option.some.inj hd
      cases r with
      | cons r t =>
        cases t with
        | cons r2 t =>
          cases t
          exact ⟨_, _, by rw [rep_int r, rep_int r2]; rfl, Int.natCast_nonneg _, Int.natCast_nonneg _, Int.ofNat_lt.mpr hc.1, Int.ofNat_lt.mpr hc.2, k F H _ (.refl s) (.int _)⟩
    · cases hd
  · cases hd
theorem d_maxD {p : Pos} {kw : Keyword} (hc : X.calm = true) (hr : Room k X.A) (hm : X.mg "max" = none) (ha : PE X a (tD X.K z f)) (hk : PK X [kw] (tCons (tD X.K z g) tNil)) (hg : Gl X "max" := by rfl)
    (hs : starEach [a] X.env = (false, eval a X.env) :: starEach [] X.env := by rfl) (he : backTo pos (starEach [a] X.env) = (false, eval a X.env) :: backTo pos (starEach [] X.env) := by rfl) (hpl : (backTo pos (starEach [a] X.env)).any (·.1) = false := by rfl)
    (hall : (backToKw pos (keywordEach [kw] X.env)).all (·.1.isSome) = true := by rfl) (hnone : (backToKw pos (keywordEach [kw] X.env)).any (·.1.isNone) = false := by rfl) (hks : (backToKw pos (keywordEach [kw] X.env)).filterMap (·.1) = [Str.ofString "default"] := by rfl) :
    PE X (.Call (.Name "max" p) [a] [kw] pos) (tD X.K z (maxDD f g)) := pe_imp (pe_callBK (cr_maxD hc hr.units) hg hm PyProof.Rows.boot_max (pa_cons ha pa_nil hs) hk (by decide) (by decide) he hpl hall hnone hks) fun σ H Q ⟨F, env, E, d, hd, kq⟩ => by
  obtain ⟨d1, h1, hd⟩ := bnd_some hd
  obtain ⟨d2, h2, hd⟩ := bnd_some hd
  refine ⟨F, env, E, d1, h1, fun F1 H1 x g1 r1 => ⟨F1, env, E.grow g1, d2, h2, fun F2 H2 y g2 r2 => ?_⟩⟩
  split at hd
  · obtain ⟨ns, h3, hd⟩ := bnd_some hd
    obtain rfl := Option.some.inj hd
    obtain rfl := ints_eq h3
    cases r1 with
    | lst h4 h5 =>
      obtain rfl := reps_ints h5
      refine ⟨_, ns, _, rfl, by rw [rep_int r2], .inl (.inl (g2.h _ _ (g1.s _ _ h4))), ?_⟩
      cases ns with
      | nil => exact kq F2 H2 _ (g1.trans g2) (.int _)
      | cons n r =>
        have q := kq F2 H2 _ (g1.trans g2) (.int _)
        have q : Q (.int (maxI n r)) H2 := q
        rw [maxI_fold] at q
        exact q
  · cases hd
theorem op_mulS : OpR X (binaryOp .Mult) fun x y H Q => ∃ (c n : Nat), x = .str ⟨#[c]⟩ ∧ y = .int (n : Int) ∧ n ≤ 500 ∧ Q (.str ⟨(List.replicate n c).toArray⟩) H := by
  intro pins s σ H x y v u Q I rx ry h
  obtain ⟨c, n, rfl, rfl, hn, q⟩ := h
  obtain ⟨t, rfl⟩ := rx
  obtain ⟨t2, rfl⟩ := ry
  have e1 : (⟨#[c]⟩ : Str).length = 1 := rfl
  refine SB.mul ⟨?_, fun h1 h2 => ?_, fun h1 h2 => ?_⟩ fun t' k => ⟨.str _, H, I.tok _, ⟨t', rfl⟩, ?_⟩
  · rw [Bool.or_eq_false_iff]
    exact ⟨decide_eq_false (by omega), decide_eq_false (by omega)⟩
  · rw [e1]
    have : 1 ≤ (2 ^ 63 - 1 : Int) / (n : Int) := by
      rw [Int.le_ediv_iff_mul_le (by omega)]
      omega
    omega
  · rw [e1]
    unfold Builtin.Str.tooLong
    refine decide_eq_false (Nat.not_lt.mpr ?_)
    rw [Nat.one_mul, Int.toNat_natCast]
    exact Nat.le_trans hn (by decide)
  · have e2 : Txt.mul ⟨#[c]⟩ (n : Int) = ⟨(List.replicate n c).toArray⟩ := by
      unfold Txt.mul
      by_cases h0 : (n : Int) < 1
      · have : n = 0 := by omega
        subst this
        rfl
      · rw [if_neg h0]
        by_cases h1 : n = 1
        · subst h1
          rfl
        · rw [if_neg (by rw [e1]; simp; omega)]
          rw [Int.toNat_natCast, repN]
          simp
    rw [e2]
    exact q
theorem d_mulS (ha : PE X a (tD X.K z f)) (hb : PE X b (tD X.K z g)) : PE X (.BinOp a .Mult b pos) (tD X.K z (b2 mulS f g)) := d_op op_mulS (fun F H x y p q d Q s hd r1 r2 k => by
  unfold mulS at hd
  split at hd
  · split at hd
    · next c n hn =>
      obtain rfl := Option.some.inj hd
      exact ⟨c, n, rep_str r1, rep_int r2, hn, k F H _ (.refl s) (.str _)⟩
    · cases hd
  · cases hd) ha hb
theorem a_star {p : Pos} (he : PE X e (tD X.K z f)) (hr : PA X es (tL X.K z ag)) (hs : starEach (.Starred e p :: es) X.env = (true, eval e X.env) :: starEach es X.env := by rfl) : PA X (.Starred e p :: es) (tL X.K z (aStar f ag)) := pa_imp (StX.pa_star he hr hs) fun σ H Q ⟨F, env, E, d, hd, k⟩ => by
  obtain ⟨p, h1, hd⟩ := bnd_some hd
  obtain ⟨ds, h2, hd⟩ := bnd_some hd
  obtain ⟨ps, h3, hd⟩ := bnd_some hd
  obtain rfl := Option.some.inj hd
  refine ⟨F, env, E, p, h1, fun F1 H1 x g1 r1 => ?_⟩
  cases p <;> first | (cases h2; done) | skip
  · obtain rfl := Option.some.inj h2
    cases r1 with
    | tup h4 h5 => exact ⟨_, _, rfl, .inl (.inl (.inl (g1.s _ _ h4))), F1, env, E.grow g1, ps, h3, fun F2 H2 xs g2 r2 => k F2 H2 _ (g1.trans g2) ((h5.mono g2.f).append r2)⟩
  · obtain rfl := Option.some.inj h2
    cases r1 with
    | lst h4 h5 => exact ⟨_, _, rfl, .inr (.inl (.inl (g1.s _ _ h4))), F1, env, E.grow g1, ps, h3, fun F2 H2 xs g2 r2 => k F2 H2 _ (g1.trans g2) ((h5.mono g2.f).append r2)⟩
theorem f_cat (ha : PE X a (tD X.K z f)) (hb : PE X b (tD X.K z g)) : PE X (.BinOp a .Add b pos) (tF X.K z (catF f g)) := pe_imp (pe_op op_cat ha hb) fun σ H Q ⟨F, env, E, d, hd, k⟩ => by
  obtain ⟨p, h1, hd⟩ := bnd_some hd
  obtain ⟨p2, h2, hd⟩ := bnd_some hd
  refine ⟨F, env, E, p, h1, fun F1 H1 x g1 r1 => ⟨F1, env, E.grow g1, p2, h2, fun F2 H2 y g2 r2 => ?_⟩⟩
  split at hd
  · obtain ⟨rfl, hs⟩ := small_some hd
    cases r1.mono g2.f with
    | lst h3 h4 =>
      cases r2 with
      | lst h5 h6 =>
        refine ⟨_, _, _, _, rfl, rfl, g2.s _ _ h3, g2.s _ _ h5, ?_, fun p np => ?_⟩
        · rw [List.length_append] at hs
          rw [h4.length, h6.length]
          exact Nat.le_of_lt hs
        · exact k _ _ _ _ ((g1.trans g2).trans (Grow.apart g2.s np)) ((g1.trans g2).h.free np) upd_same (g2.s.free np) (h4.append h6)
  · cases hd
/-! ### a list, a tuple, a text walked -/
theorem p_any (he : PE X e (tD X.K z f)) : PI X tg e (tI X.K z (uF itemsOf f)) := ⟨fun pins s σ H R I ⟨F, env, E, ds, hd, k⟩ => by
  obtain ⟨d, h1, h2⟩ := bnd_some hd
  cases d <;> first | (cases h2; done) | skip
  · obtain rfl := Option.some.inj h2
    exact (p_str he).run pins s σ H R I ⟨F, env, E, _, by unfold uF bnd; rw [h1]; rfl, k⟩
  · obtain rfl := Option.some.inj h2
    exact (p_tup he).run pins s σ H R I ⟨F, env, E, _, by unfold uF bnd; rw [h1]; rfl, k⟩
  · obtain rfl := Option.some.inj h2
    exact (p_list he).run pins s σ H R I ⟨F, env, E, _, by unfold uF bnd; rw [h1]; rfl, k⟩⟩
theorem d_fldE {x fl : Str} {c i : Nat} (C : Kls X.K X.mg x (z.ct c)) (S1 : ∃ p, Slot1 X.K (z.ct c) fl p i) (he : PE X e (tD X.K z f)) (hb : attributeBase e fl X.env (eval e X.env) = eval e X.env := by rfl) : PE X (.Attribute e fl pos) (tD X.K z (u1 (fldD c i) f)) := let ⟨_, h⟩ := S1; d_fld C h he hb
end
end
end DK
/-! DK14 -/
set_option Elab.async false
set_option linter.all false
set_option maxRecDepth 100000
set_option maxHeartbeats 1000000
namespace DK
noncomputable section
open PySem PySem.Spec PyProof.Rows L2
open SlX (Slt SlO slH putS Slot1 SIsi)

/-- the module's constants, and that the built-ins are the built-ins -/
structure Bt (mg : Str → Option Value) : Prop where
  isinstance : mg "isinstance" = none
  int_ : mg "int" = none
  bool_ : mg "bool" = none
  tuple_ : mg "tuple" = none
  str_ : mg "str" = none
  list : mg "list" = none
  all : mg "all" = none
  zip : mg "zip" = none
  range : mg "range" = none
  enumerate : mg "enumerate" = none
  sum : mg "sum" = none
  len : mg "len" = none
  min : mg "min" = none
  max : mg "max" = none
  sorted : mg "sorted" = none
  abs : mg "abs" = none
  gcd : mg "gcd" = some (.builtin "math.gcd")
  comb : mg "comb" = some (.builtin "math.comb")
  rise : ∃ t, mg "RISE" = some (.str ⟨[114].toArray⟩ t)
  step : ∃ t, mg "STEP" = some (.str ⟨[115].toArray⟩ t)
  greatest : ∃ t, mg "GREATEST" = some (.int (10 ^ 60) t)
  side : ∃ t, mg "MAX_SIDE" = some (.int 60 t)
  listed : ∃ t, mg "MAX_LISTED" = some (.int 5000 t)
  row : ∃ t, mg "MAX_ROW" = some (.int 60 t)
structure Cf (K : PySem.W.Frag) (mg : Str → Option Value) (ct : Nat → Addr) : Prop where
  kSlope : Kls K mg "Slope" (ct 0)
  kWay : Kls K mg "Way" (ct 1)
  kShelf : Kls K mg "Shelf" (ct 2)
  kHeap : Kls K mg "Heap" (ct 3)
  own_common : ∃ p, Slot1 K (ct 0) "own_common" p 0
  own_rises : ∃ p, Slot1 K (ct 0) "own_rises" p 1
  own_steps : ∃ p, Slot1 K (ct 0) "own_steps" p 2
  own_key1 : ∃ p, Slot1 K (ct 1) "own_key" p 0
  own_slope1 : ∃ p, Slot1 K (ct 1) "own_slope" p 1
  own_text : ∃ p, Slot1 K (ct 1) "own_text" p 2
  own_gaps : ∃ p, Slot1 K (ct 2) "own_gaps" p 0
  own_least : ∃ p, Slot1 K (ct 2) "own_least" p 1
  own_slope2 : ∃ p, Slot1 K (ct 2) "own_slope" p 2
  own_key3 : ∃ p, Slot1 K (ct 3) "own_key" p 0
  own_rows : ∃ p, Slot1 K (ct 3) "own_rows" p 1

def onO (c : Nat) (fn : List D → Option D) : List D → Option D
  | [.obj c' ds] => if c = c' then fn [.obj c' ds] else none
  | _ => none
theorem onO_some {c : Nat} {fn : List D → Option D} {ds : List D} {r : D} (h : onO c fn ds = some r) : (∃ es, ds = [.obj c es]) ∧ fn ds = some r := by
  unfold onO at h
  split at h
  · split at h
    · next hc =>
      subst hc
      exact ⟨⟨_, rfl⟩, h⟩
    · cases h
  · cases h
theorem met_onO {P : Program} {w : World} {K : PySem.W.Frag} {mg : Str → Option Value} {base : Heap} {ct : Nat → Addr} {k c : Nat} {ga : Addr} {fn : List D → Option D} (M : Met P w K mg base ct k ga fn) : Met P w K mg base ct k ga (onO c fn) :=
  FnR.imp M fun vs H Q E ⟨F, ds, s, r, d, hd, q⟩ => ⟨F, ds, s, r, d, (onO_some hd).2, q⟩
section
variable {X : Cx} {z : Zc} {f g h : En → Option D} {ag : En → Option (List D)} {e a b tg iter kx vx : Expr} {es ifs : List Expr} {pos : Pos} {k : Nat} {fn : List D → Option D} {st : Stmt}
theorem d_globIE {x : Str} {i : Int} {pos : Pos} (hm : ∃ t, X.mg x = some (.int i t)) (hg : Gl X x := by rfl) (hd : (x == ("__debug__" : Str)) = false := by decide) : PE X (.Name x pos) (tD X.K z (cst (.int i))) := let ⟨_, h⟩ := hm; d_globI h hg hd
theorem d_globSE {x : Str} (l : List Nat) {pos : Pos} (hm : ∃ t, X.mg x = some (.str ⟨l.toArray⟩ t)) (hg : Gl X x := by rfl) (hd : (x == ("__debug__" : Str)) = false := by decide) : PE X (.Name x pos) (tD X.K z (cst (.str l))) := let ⟨_, h⟩ := hm; d_globS l h rfl hg hd
theorem d_propO {x fl : Str} {c : Nat} {ga : Addr} (C : Kls X.K X.mg x (z.ct c)) (P : Prp X.K (z.ct c) fl ga) (M : Met X.prog X.w X.K X.mg X.base z.ct k ga fn) (hr : Room (k + 1) X.A) (he : PE X e (tD X.K z f))
    (hb : attributeBase e fl X.env (eval e X.env) = eval e X.env := by rfl) : PE X (.Attribute e fl pos) (tD X.K z (u1L (onO c fn) f)) := d_prop C P (met_onO M) hr he (fun d r h => by
  obtain ⟨⟨es, h1⟩, _⟩ := onO_some h
  injection h1 with h1 _
  exact ⟨es, h1⟩) hb
theorem d_methO {x m : Str} {c : Nat} {ga : Addr} {apos : Pos} {pl : Sem Bool} (C : Kls X.K X.mg x (z.ct c)) (hm : Meth X.K (z.ct c) m ga) (M : Met X.prog X.w X.K X.mg X.base z.ct k ga fn) (hr : Room k X.A) (he : PE X e (tD X.K z f))
    (ht : eval (.Call (.Attribute e m apos) [] [] pos) X.env = (do
      let ov ← eval e X.env
      standAt apos.atName
      let (f, first) ← holding [ov] (getMethod ov m pl)
      callWith pos f first (backTo pos (starEach [] X.env)) (backToKw pos (keywordEach [] X.env))) := by rfl) : PE X (.Call (.Attribute e m apos) [] [] pos) (tD X.K z (u1L (onO c fn) f)) := d_meth0 C hm (met_onO M) hr he (fun d r h => by
  obtain ⟨⟨es, h1⟩, _⟩ := onO_some h
  injection h1 with h1 _
  exact ⟨es, h1⟩) ht
theorem s_asgT {sl : List Nat} {set : D → En → Option En} (hp : PS X st (tAsg (tD X.K z f) (tG X.K z sl set))) : PS X st (tS X.K z (iAsg f set)) := ps_imp hp fun E σ H ⟨F, env, R, o, ho, p⟩ => by
  obtain ⟨d, h1, ho⟩ := bnd_some ho
  obtain ⟨env', h2, ho⟩ := bnd_some ho
  obtain rfl := Option.some.inj ho
  exact ⟨F, env, R, d, h1, fun F1 H1 x g1 r1 => ⟨F1, env, d, R.grow g1, r1, env', h2, fun σ' R' _ _ => p F1 H1 σ' g1.f R'⟩⟩
theorem s_storeE (j i c : Nat) {x fl : Str} (C : Kls X.K X.mg x (z.ct c)) (S1 : ∃ p, Slot1 X.K (z.ct c) fl p i) (hp : PS X st (SlX.sSl X.K (tVar j) (tD X.K z f) fl)) : PS X st (tS X.K z (iStore j i c f)) := let ⟨_, h⟩ := S1; s_store j i c C h hp
theorem put_new (ks : List Int) (i : Int) (h : (ks.any fun n => decide (n = i)) = false) : putK (ks.map fun k => ((Sum.inl k : Key), V.bl true)) (Sum.inl i) (.bl true) = (ks ++ [i]).map fun k => ((Sum.inl k : Key), V.bl true) := by
  unfold putK
  have e : ((ks.map fun k => ((Sum.inl k : Key), V.bl true)).any fun kv => decide (kv.1 = (Sum.inl i : Key))) = false := by
    rw [List.any_map]
    rw [← h]
    congr 1
    funext n
    show decide ((Sum.inl n : Key) = Sum.inl i) = decide (n = i)
    rw [decide_eq_decide]
    exact ⟨fun q => by injection q, fun q => by rw [q]⟩
  rw [e, if_neg (by decide), List.map_append]
  rfl
theorem dc_tD {K : PySem.W.Frag} {src : En → Option (List D)} {sl : List Nat} {set : D → En → Option En} {fk : En → Option D} : ∀ σ H Q, tD K z (dcD src sl set fk) σ H Q → tDc (tI K z src) (tG K z sl set) (tQ K z fun _ => some true) (tD K z fk) (tC (.bl true)) sl σ H Q := fun σ H Q ⟨F, env, E, rs, hd, k⟩ => by
  obtain ⟨ds, h1, hd⟩ := bnd_some hd
  obtain ⟨ds', h2, hd2⟩ := bnd_some hd
  obtain ⟨ks, h3, hd3⟩ := bnd_some hd2
  obtain ⟨rfl, hsm⟩ := small_some h2
  obtain rfl := Option.some.inj hd3
  refine ⟨F, env, E, ds', h1, fun F1 H1 J g1 W L nL => ?_⟩
  have nLH : H L = none := g1.h.free nL
  refine ⟨fun i m H => m = ds'.length - i ∧ i ≤ ds'.length ∧ ∃ F2 done, Same F1 F2 ∧ Grow F1 H1 F2 H ∧ ER K z F2 H (wipe σ sl) (wipeE env sl) ∧ H L = some (.dK (done.map fun k => (Sum.inl k, .bl true))) ∧ F2 L = none ∧ dcL set fk (wipeE env sl) (ds'.drop i) done = some ks ∧ done.length ≤ i,
    ⟨ds'.length, rfl, Nat.zero_le _, F1, [], .refl _, Grow.apart g1.s nL, ((E.grow g1).wipe sl).grow (Grow.apart g1.s nL), upd_same, g1.s.free nL, h3, Nat.le_refl _⟩, ?_⟩
  rintro i m H' ⟨rfl, hi, F2, done, s2, g2, E2, hL, nF, h4, hle⟩
  by_cases hlt : i < ds'.length
  rotate_left
  · have e : i = ds'.length := by omega
    subst e
    refine .inl ⟨W.stops H' (s2.trans E2.sub), ?_⟩
    rw [List.drop_length] at h4
    obtain rfl := Option.some.inj h4
    have sF : Same F2 (L2.upd F2 L (.dK (done.map fun k => (Sum.inl k, .bl true)))) := same_upd nF
    refine k (L2.upd F2 L (.dK (done.map fun k => (Sum.inl k, .bl true)))) H' _ ⟨(g1.f.trans s2).trans sF, g1.h.trans g2.h, fun b o q => ?_, fun b o hb ht hf => ?_⟩ (.dset upd_same)
    · by_cases hb : b = L
      · subst hb
        rw [upd_same] at q
        rw [hL]
        exact q
      · rw [upd_ne hb] at q
        exact E2.sub _ _ q
    · rw [upd_ne (ne_of_none hb nLH)]
      exact (g1.trans g2).n b o hb ht hf
  · refine .inr ⟨W.goes i H' hlt (s2.trans E2.sub), fun H'' => ∃ F2 done, Same F1 F2 ∧ Grow F1 H1 F2 H'' ∧ ER K z F2 H'' (wipe σ sl) (wipeE env sl) ∧ H'' L = some (.dK (done.map fun k => (Sum.inl k, .bl true))) ∧ F2 L = none ∧ dcL set fk (wipeE env sl) (ds'.drop (i + 1)) done = some ks ∧ done.length ≤ i + 1,
      fun H'' h => ⟨ds'.length - (i + 1), by omega, rfl, hlt, h⟩, fun x Hy y => ?_⟩
    obtain ⟨F3, d, g3, hd, rd⟩ := W.yields i H' x Hy hlt (s2.trans E2.sub) y F2 s2 E2.sub
    rw [List.drop_eq_getElem_cons hlt] at h4
    have e1 : ds'[i] = d := by
      rw [List.getElem?_eq_getElem hlt] at hd
      exact Option.some.inj hd
    rw [e1] at h4
    obtain ⟨env3, h5, h4⟩ := bnd_some h4
    obtain ⟨kd, h6, h4⟩ := bnd_some h4
    have hL3 := g3.h _ _ hL
    have nF3 := g3.n _ _ hL (fun _ z => by cases z) nF
    refine ⟨F3, _, d, E2.grow g3, rd, env3, h5, fun σ' R' hl hj => ⟨?_, ?_⟩⟩
    · have e5 : wipe σ' sl = wipe (wipe σ sl) sl := wipe_eq sl hj hl
      rw [e5, wipe_wipe]
    · refine ⟨F3, env3, R', true, rfl, fun F4 H4 g4 => iteT ⟨F4, env3, R'.grow g4, kd, h6, fun F5 H5 v g5 r5 => ?_⟩⟩
      cases kd <;> first | (cases h4; done) | skip
      simp only at h4
      split at h4
      · cases h4
      · next hno =>
        have hL5 := g5.h _ _ (g4.h _ _ hL3)
        have nF5 := g5.n _ _ (g4.h _ _ hL3) (fun _ z => by cases z) (g4.n _ _ hL3 (fun _ z => by cases z) nF3)
        have G5 : Grow F1 H1 F5 H5 := ((g2.trans g3).trans g4).trans g5
        have E5 := ((E2.grow g3).grow g4).grow g5
        refine ⟨_, .inl _, by rw [rep_int r5]; rfl, hL5, by rw [List.length_map]; exact Nat.lt_of_le_of_lt hle (Nat.lt_trans hlt hsm), ?_⟩
        rw [put_new _ _ (Bool.eq_false_iff.mpr hno)]
        refine ⟨F5, _, G5.f, ⟨G5.f, fun b o q => ?_, fun b o q => ?_, G5.n⟩, ?_, upd_same, nF5, h4, by rw [List.length_append]; exact Nat.succ_le_succ hle⟩
        · rw [upd_ne (ne_of_none q nL)]
          exact G5.h _ _ q
        · rw [upd_ne (ne_of_none q nF5)]
          exact G5.s _ _ q
        · exact E5.other hL5 (fun _ z => by cases z) (fun z => by cases z) nF5 (E.gr.h.free nLH) fun j e he ho hs => ((E.grow g1).wipe sl).fresh nL j e he ho hs
theorem d_dc {scope : Scope} {own : List (Str × Nat)} {src : En → Option (List D)} {set : D → En → Option En} {fk : En → Option D} {j : Nat} {p2 : Pos} (hc : X.calm = true) (hN : X.N.Nodup) (hi : PI X tg iter (tI X.K z src)) (ok : BlkOk X.N X.env.scope scope own)
    (hg : ∀ (s : Shared) (H : Hp) (C : Addr) (cl : List (Str × Addr)) (fp : List Addr), PG (X.blk s H scope (compEnvC scope cl C X.env) fp) tg (tG X.K z (own.map (·.2)) set)) (ht : ∀ (s : Shared) (H : Hp) (C : Addr) (cl : List (Str × Addr)) (fp : List Addr), PTs (X.blk s H scope (compEnvC scope cl C X.env) fp) ifs (tQ X.K z fun _ => some true))
    (hk : ∀ (s : Shared) (H : Hp) (C : Addr) (cl : List (Str × Addr)) (fp : List Addr), PE (X.blk s H scope (compEnvC scope cl C X.env) fp) kx (tD X.K z fk)) (hs : ∀ x, foldedSetIterable iter X.env x = pure x := by intro _; rfl) :
    PE X (.DictComp kx (.Constant (.bool true) j p2) [⟨tg, iter, ifs, 0⟩] scope pos) (tD X.K z (dcD src (own.map (·.2)) set fk)) := pe_imp (pe_dc hc hN hi ok hg ht hk (fun _ _ _ _ _ => pe_bl) hs) dc_tD
/-! ### comparisons as tests -/
theorem t_ofD {te : TE} {fe : En → Option D} {e : Expr} (h : PT X e (tTest te)) (w : ∀ σ H Q, tD X.K z fe σ H Q → te σ H Q) : PT X e (tQ X.K z (tst fe)) := pt_imp h fun σ H Q ⟨F, env, E, b, hb, k⟩ => by
  have h1 := tst_some hb
  exact w σ H _ ⟨F, env, E, _, h1, fun F1 H1 v g1 r1 => ⟨b, rep_bl r1, k F1 H1 g1⟩⟩
theorem t_cmp {op : CmpOp} {r : R2} {o : D → D → Option D} (ho : OpR X (compareOp op) r) (hr : OpD X.K z r o) (ha : PE X a (tD X.K z f)) (hb : PE X b (tD X.K z g)) (hm : behindInMarks op b = false) : PT X (.Compare a [op] [b] pos) (tQ X.K z (tst (b2 o f g))) := t_ofD (pt_cmpR ho ha hb hm) (two hr)
theorem op_inT : OpD X.K z (rIn X.K false) inT := fun F H x y p q d Q s hd r1 r2 k => by
  cases p <;> cases q <;> first | (cases hd; done) | skip
  obtain ⟨ns, h1, hd⟩ := bnd_some (show bnd (intsOf _) _ = _ from hd)
  obtain rfl := Option.some.inj hd
  obtain rfl := ints_eq h1
  cases r2 with
  | tup h2 h3 =>
    obtain rfl := reps_ints h3
    refine ⟨_, _, rfl, .inr (.inl (.inl (s _ _ h2))), by rw [rep_int r1]; rfl, ?_, ?_⟩
    · rw [List.all_map, List.all_eq_true]
      exact fun _ _ => rfl
    · rw [rep_int r1]
      have e : ∀ i : Int, inV (V.int i) (ns.map V.int) = ns.any fun n => n == i := fun i => by
        unfold inV
        rw [List.any_map]
        rfl
      simp only [Bool.false_eq_true, if_false]
      rw [e]
      exact k F H _ (.refl s) (.bl _)
theorem t_in (ha : PE X a (tD X.K z f)) (hb : PE X b (tD X.K z g)) (hm : behindInMarks .In b = false) : PT X (.Compare a [.In] [b] pos) (tQ X.K z (tst (b2 inT f g))) := t_cmp op_in_seq op_inT ha hb hm
theorem chain_tD {c : Expr} {r r' : R2} {o o' : D → D → Option D} {h : En → Option D} (hr : OpD X.K z r o) (hr' : OpD X.K z r' o') : ∀ σ H Q, tD X.K z (chD o o' f g h) σ H Q → tChain r r' (tD X.K z f) (tD X.K z g) (tD X.K z h) σ H Q := fun σ H Q ⟨F, env, E, d, hd, k⟩ => by
  obtain ⟨p, h1, hd⟩ := bnd_some hd
  obtain ⟨p2, h2, hd⟩ := bnd_some hd
  obtain ⟨t, h3, hd⟩ := bnd_some hd
  obtain ⟨p3, h3, h4⟩ := bnd_some h3
  refine ⟨F, env, E, p, h1, fun F1 H1 x g1 r1 => ⟨F1, env, E.grow g1, p2, h2, fun F2 H2 y g2 r2 => ?_⟩⟩
  refine hr F2 H2 x y p p2 p3 _ g2.s h3 (r1.mono g2.f) r2 fun F3 H3 v g3 r3 => ?_
  have h4 : p3 = .bl t := by
    cases p3 <;> first | (cases h4; done) | skip
    obtain rfl := Option.some.inj h4
    rfl
  subst h4
  refine ⟨t, rep_bl r3, ?_⟩
  cases t with
  | false =>
    obtain rfl := Option.some.inj hd
    exact iteF (k F3 H3 _ ((g1.trans g2).trans g3) (.bl _))
  | true =>
    obtain ⟨p4, h5, hd⟩ := bnd_some (x := h env) (k := fun c => o' p2 c) hd
    refine iteT ⟨F3, env, E.grow ((g1.trans g2).trans g3), p4, h5, fun F4 H4 w g4 r4 => ?_⟩
    exact hr' F4 H4 y w p2 p4 d _ g4.s hd (r2.mono (g3.f.trans g4.f)) r4 fun F5 H5 v g5 r5 => k F5 H5 v ((((g1.trans g2).trans g3).trans g4).trans g5) r5
theorem t_chain {c : Expr} {op op' : CmpOp} {o o' : D → D → Option D} {r r' : R2} {h : En → Option D} (ho : OpR X (compareOp op) r) (ho' : OpR X (compareOp op') r') (hr : OpD X.K z r o) (hr' : OpD X.K z r' o') (ha : PE X a (tD X.K z f)) (hb : PE X b (tD X.K z g)) (hc : PE X c (tD X.K z h))
    (hm : lastMarks [op, op'] [b, c] = false := by with_unfolding_all rfl) : PT X (.Compare a [op, op'] [b, c] pos) (tQ X.K z (tst (chD o o' f g h))) := t_ofD (pt_chain ho ho' ha hb hc hm) (chain_tD (c := c) hr hr')
end
end
end DK
/-! DKZ -/
set_option Elab.async false
set_option linter.all false
set_option maxRecDepth 100000
set_option maxHeartbeats 1000000
/-! zip of a list and a text. -/
namespace DK
noncomputable section
open PySem PySem.Spec PyProof.Rows L2
open SlX (Slt SlO slH putS Slot1 SIsi)

def ItLS (K : PySem.W.Frag) (a : Addr) (x : Str) : It :=
  ⟨fun i H => ∃ xs : List V, SqL K H a xs ∧ i < xs.length ∧ i < x.cps.size,
   fun i H v H' => ∃ T y c, v = .ref T ∧ H T = none ∧ H' = upd H T (.tup [y, .str ⟨#[c]⟩]) ∧ (∀ xs, SqL K H a xs → xs[i]? = some y) ∧ x.cps[i]? = some c,
   fun i H => ∃ xs : List V, SqL K H a xs ∧ i ≤ xs.length ∧ i ≤ x.cps.size ∧ (i = xs.length ∨ i = x.cps.size)⟩
theorem turn_zipLS {P : Program} {w : World} {K : PySem.W.Frag} {elts : List Expr} {kk : Nat} {tpos : Pos} {a zz TI TO i1 i2 : Addr} {x : Str} {t : Tok} (D : ZipSep2 zz TI TO i1 i2 [i1, a] [i2]) (ha : a ≠ i1) :
    Turn P w K (.Tuple elts kk tpos) (ItLS K a x) [zz, TI, TO, i1, i2] zz (fun i h => IsZip h zz TI TO .none ∧ IsTupOf2 h TI (.ref i1) (.ref i2) ∧ (∃ p q, IsTupOf2 h TO p q) ∧ h.IsListIter i1 a i ∧ h.IsStrIter i2 (strIterType x) x t i) where
  mem := by simp
  obj := fun i h ⟨hz, hTI, ⟨p, q, hTO⟩, ⟨o1, e1, _, d1⟩, ⟨o2, e2, _, d2⟩⟩ c hc => by
    have e' : c = zz ∨ c = TI ∨ c = TO ∨ c = i1 ∨ c = i2 := by simpa using hc
    rcases e' with rfl | rfl | rfl | rfl | rfl
    · exact ⟨_, hz, fun v q => nomatch q⟩
    · exact ⟨_, hTI, fun v q => nomatch q⟩
    · exact ⟨_, hTO, fun v q => nomatch q⟩
    · exact ⟨o1, e1, fun v q => by rw [d1] at q; cases q⟩
    · exact ⟨o2, e2, fun v q => by rw [d2] at q; cases q⟩
  keep := fun i h h' ⟨hz, hTI, ⟨p, q, hTO⟩, h1, h2⟩ k =>
    ⟨k zz (by simp) _ hz, k TI (by simp) _ hTI, ⟨p, q, k TO (by simp) _ hTO⟩, h1.at fun o e => k i1 (by simp) o e, let ⟨o, ho, r⟩ := h2; ⟨o, k i2 (by simp) o ho, r⟩⟩
  item := by
    intro X hP hw hK hc i pins s σ H E I hf st hg
    subst hP hw hK
    obtain ⟨hz, hTI, ⟨p, q, hTO⟩, h1, h2⟩ := st
    obtain ⟨xs, hqx, hlt1, hlt2⟩ := hg
    obtain ⟨its, rv, hl, _⟩ := I.list hqx
    have hh : X.A.in1.handled = none := I.ok.hd hc
    have D1 := Draws.list (prog := X.prog) (w := X.w) (A := X.A.in1) hh i1 a ha its.toArray
    have D2 := Draws.text (prog := X.prog) (w := X.w) (A := X.A.in1) hh i2 x t
    have hzl : zz < s.heap.objs.size := Heap.lt_size hz
    refine wpAny_pyNext_zipD2_item D D1 D2 hz hTI hTO ⟨h1, hl.isList⟩ h2 (by rw [List.size_toArray, ← rv.length]; exact hlt1) hlt2 fun u1 u2 h' tk e1 e2 z' TO' st1 st2 hT hsz hk => ?_
    obtain ⟨c, tc, hcx, rfl⟩ := e2
    obtain ⟨y, hy⟩ : ∃ y, xs[i]? = some y := ⟨xs[i], List.getElem?_eq_getElem hlt1⟩
    obtain ⟨u, hu, ru⟩ := rv.get hy
    have eu : u = u1 := by
      have e1 : its.toArray[i]? = some u1 := e1
      rw [List.getElem?_toArray, hu] at e1
      exact Option.some.inj e1
    subst eu
    refine ⟨_, rfl, wpAny_letOwnedTupleGo_zip (s := { s with heap := h', toks := tk }) z' fun h'' z'' sb => ?_⟩
    have keep2 : ∀ b o, b ∉ [zz, TI, TO, i1, i2] → s.heap.get? b = some o → h''.get? b = some o := fun b o hb q => by
      have hb : b ≠ zz ∧ b ≠ TI ∧ b ≠ TO ∧ b ≠ i1 ∧ b ≠ i2 := by simpa using hb
      exact (sb.2 b hb.1).trans (hk b o hb.1 hb.2.2.1 hb.2.2.2.1 hb.2.2.2.2 q)
    have hT2 : h''.get? s.heap.objs.size = some { cls := .type "tuple", data := .seq #[u, .str ⟨#[c]⟩ tc] } := (sb.2 _ (Nat.ne_of_gt hzl)).trans hT
    have new : ObjOk X.prog X.w (upd H s.heap.objs.size (.tup [y, .str ⟨#[c]⟩])) h'' s.heap.objs.size (.tup [y, .str ⟨#[c]⟩]) :=
      ⟨by show 2 ≤ sizeLine; decide, [u, .str ⟨#[c]⟩ tc], .cons ru (.cons ⟨tc, rfl⟩ .nil), ⟨_, hT2, rfl, _, rfl⟩⟩
    refine ⟨.ref s.heap.objs.size, _, I.turnedNew (t' := tk) (ch := [zz, TI, TO, i1, i2]) keep2 hf (Nat.le_refl _) new, rfl, ⟨_, y, c, rfl, I.hok.fresh (Nat.le_refl _), rfl, fun l hl' => by rw [I.list_inj hl' hqx]; exact hy, hcx⟩, ⟨z'', ?_, ⟨u, .str ⟨#[c]⟩ tc, (sb.2 _ D.TOz).trans TO'⟩, st1.1.at fun o e => (sb.2 _ (Ne.symm D.zi1)).trans e, ?_⟩, fun b hb => ?_⟩
    · exact (sb.2 _ D.TIz).trans (hk _ _ D.TIz D.TITO D.TIi1 D.TIi2 hTI)
    · obtain ⟨o, ho, r⟩ := st2
      exact ⟨o, (sb.2 _ (Ne.symm D.zi2)).trans ho, r⟩
    · have hlt : b < s.heap.objs.size := by
        have e' : b = zz ∨ b = TI ∨ b = TO ∨ b = i1 ∨ b = i2 := by simpa using hb
        rcases e' with rfl | rfl | rfl | rfl | rfl
        · exact hzl
        · exact Heap.lt_size hTI
        · exact Heap.lt_size hTO
        · obtain ⟨_, e1, _⟩ := h1
          exact Heap.lt_size e1
        · obtain ⟨_, e2, _⟩ := h2
          exact Heap.lt_size e2
      rw [upd_ne (Nat.ne_of_lt hlt)]
      exact (hf b hb).1
  done := by
    intro X hP hw hK hc i pins s σ H E I hf st hg
    subst hP hw hK
    obtain ⟨hz, hTI, ⟨p, q, hTO⟩, h1, h2⟩ := st
    obtain ⟨xs, hqx, hle1, hle2, hend⟩ := hg
    obtain ⟨its, rv, hl, _⟩ := I.list hqx
    have hh : X.A.in1.handled = none := I.ok.hd hc
    have D1 := Draws.list (prog := X.prog) (w := X.w) (A := X.A.in1) hh i1 a ha its.toArray
    have D2 := Draws.text (prog := X.prog) (w := X.w) (A := X.A.in1) hh i2 x t
    have hlen : its.toArray.size = xs.length := by rw [List.size_toArray, ← rv.length]
    refine wpAny_pyNext_zipD2_end D D1 D2 hz hTI hTO ⟨h1, hl.isList⟩ h2 (by rw [hlen]; exact hle1) hle2 (by rw [hlen]; exact hend) fun h' tk hk => ⟨rfl, I.turnedL (t' := tk) (ch := [zz, TI, TO, i1, i2]) (fun b o hb q => ?_) hf⟩
    have hb : b ≠ zz ∧ b ≠ TI ∧ b ≠ TO ∧ b ≠ i1 ∧ b ≠ i2 := by simpa using hb
    exact hk b o hb.1 hb.2.2.1 hb.2.2.2.1 hb.2.2.2.2 q
  self := fun A i s Q E st h => wpAny_pyIter_zip st.1 h
def zipLS : List D → Option (List D)
  | [.lst xs, .str l] => some (pairD xs (l.map fun c => .str [c]))
  | _ => none
theorem zipLS_some {d ds : List D} (h : zipLS d = some ds) : ∃ xs l, d = [.lst xs, .str l] ∧ ds = pairD xs (List.map (fun c => D.str [c]) l) := by
  unfold zipLS at h
  split at h
  · exact ⟨_, _, rfl, (Option.some.inj h).symm⟩
  · cases h
section
variable {X : Cx} {z : Zc} {ag : En → Option (List D)} {a b : Expr} {pos : Pos}
theorem walk_zipLS {K : PySem.W.Frag} {a : Addr} {xs : List V} {x : Str} : Walk (ItLS K a x) (min xs.length x.cps.size) (fun H => SqL K H a xs) (YPair (fun i => xs[i]?) fun i => x.cps[i]?.map fun c => V.str ⟨#[c]⟩) := by
  refine ⟨fun i _ hi q => ⟨xs, q, by omega, by omega⟩, fun _ q => ⟨xs, q, by omega, by omega, by omega⟩, fun i H v H' _ q y => ?_⟩
  obtain ⟨T, u, c, h1, h2, h3, h4, h5⟩ := y
  exact ⟨T, u, _, h1, h2, h3, h4 xs q, by show (x.cps[i]?.map fun c => V.str ⟨#[c]⟩) = _; rw [h5]; rfl⟩
theorem apart4 {S l : Nat} {k : Nat} (h : l < S) : S + (k + 1) ∉ [S, l] := fun hm => by
  rcases List.mem_cons.mp hm with e | hm
  · omega
  · have := List.mem_singleton.mp hm
    omega
theorem p_zipLS {p tpos : Pos} {elts : List Expr} {kk : Nat} (hm : X.mg "zip" = none) (ha : PA X [a, b] (tL X.K z ag)) (hg : Gl X "zip" := by rfl) (hs : starEach [a, b] X.env = (false, eval a X.env) :: starEach [b] X.env := by rfl) (hpl : (backTo pos (starEach [b] X.env)).any (·.1) = false := by rfl) : PI X (.Tuple elts kk tpos) (.Call (.Name "zip" p) [a, b] [] pos) (tI X.K z (callF zipLS ag)) := by
  refine ⟨fun pins s σ H R I ⟨F, env, E, ds, hd, k⟩ => ?_⟩
  obtain ⟨d, h1, hd⟩ := bnd_some hd
  refine Call_ (ld_blt I hg hm PyProof.Rows.boot_zip (PyProof.Rows.callWith_type1 (thn (ha.run pos pins s σ H (fun vs H1 => ∃ F1, Grow F H F1 H1 ∧ Reps X.K z.ct F1 vs d) I ⟨F, env, E, d, h1, fun F1 H1 vs g1 r1 => ⟨F1, g1, r1⟩⟩) fun us s1 ⟨vs, H1, I1, rv, F1, g1, r1⟩ => ?_) hs hpl))
  obtain ⟨ys, lc, rfl, rfl⟩ := zipLS_some hd
  cases r1 with
  | cons r1 rr =>
    cases rr with
    | cons r2 rr =>
      cases rr
      cases r1 with
      | @lst l xs _ h2 h3 =>
        cases r2 with
        | str _ =>
          cases rv with
          | cons v1 vv =>
            cases vv with
            | cons v2 vv =>
              cases vv
              cases v1
              obtain ⟨t, rfl⟩ := v2
              have hq : SqL X.K H1 l xs := .inl (.inl (g1.s _ _ h2))
              obtain ⟨its, rvv, hl, _⟩ := I1.list hq
              have hll : l < s1.heap.objs.size := by
                obtain ⟨o, ho, _⟩ := hl.isList
                exact Heap.lt_size ho
              refine zip_begins2 (begins_list l its.toArray) (begins_text ⟨lc.toArray⟩ t) hl.isList trivial fun h' hz hTI hTO e1 e2 hsz hk => wpAny_pyIter_zip hz ?_
              have I2 : Inv X pins σ H1 { s1 with heap := h' } := I1.kept (t' := s1.toks) hk
              refine ⟨s1.heap.objs.size + 4, [s1.heap.objs.size + 4, s1.heap.objs.size + 2, s1.heap.objs.size + 3, s1.heap.objs.size, s1.heap.objs.size + 1], _, _, H1, rfl, I2, turn_zipLS (a := l) (x := ⟨lc.toArray⟩) (t := t) ⟨by simp, by simp, by simp, by simp, by simp, ?_, ?_, by simp, by simp, by simp, by simp, by simp, ?_⟩ (Nat.ne_of_lt hll), ⟨hz, hTI, ⟨_, _, hTO⟩, ⟨_, e1, rfl, rfl⟩, ⟨_, e2, rfl, rfl⟩⟩, fun c hcm => ?_, k F1 H1 _ g1 ?_⟩
              · exact apart4 hll
              · exact apart4 hll
              · exact apart4 hll
              · have hle : s1.heap.objs.size ≤ c := by
                  have e' : c = s1.heap.objs.size + 4 ∨ c = s1.heap.objs.size + 2 ∨ c = s1.heap.objs.size + 3 ∨ c = s1.heap.objs.size ∨ c = s1.heap.objs.size + 1 := by simpa using hcm
                  rcases e' with q | q | q | q | q
                  · exact q ▸ Nat.le_add_right _ _
                  · exact q ▸ Nat.le_add_right _ _
                  · exact q ▸ Nat.le_add_right _ _
                  · exact q ▸ Nat.le_refl _
                  · exact q ▸ Nat.le_add_right _ _
                exact I1.fpOk hle (I1.hok.fresh hle)
              · refine wlk_pair (xs := fun i => xs[i]?) (ys := fun i => (⟨lc.toArray⟩ : Str).cps[i]?.map fun c => V.str ⟨#[c]⟩) ?_ (fun i x y hi hx hy => ?_)
                · have e : (pairD ys (lc.map fun c => D.str [c])).length = min xs.length (⟨lc.toArray⟩ : Str).cps.size := by
                    rw [pairD_len, List.length_map, ← h3.length]
                    show min xs.length lc.length = min xs.length lc.toArray.size
                    rw [List.size_toArray]
                  rw [e]
                  exact walk_zipLS.mono (fun H q => .inl (.inl (q _ _ h2))) fun i H x H' hi hF y => y
                · obtain ⟨d, h4, h5⟩ := h3.getV hx
                  have hy : (lc.toArray[i]?.map fun c => V.str ⟨#[c]⟩) = some y := hy
                  rw [List.getElem?_toArray] at hy
                  cases hc : lc[i]? with
                  | none => rw [hc] at hy; cases hy
                  | some c =>
                    rw [hc] at hy
                    obtain rfl := Option.some.inj hy
                    exact ⟨d, .str [c], pairD_at _ _ _ _ _ h4 (by rw [List.getElem?_map, hc]; rfl), h5, .str [c]⟩
end
end
end DK
/-! E0 -/
set_option Elab.async false
set_option linter.all false
set_option maxRecDepth 100000
set_option maxHeartbeats 4000000
namespace DK
noncomputable section
open PySem PySem.Spec PyProof.Rows L2
open SlX (Slt SlO slH putS Slot1 SIsi)

section
variable {P : Program} {w : World} {K : PySem.W.Frag} {mg : Str → Option Value} {base : Heap} {ct : Nat → Addr}
theorem sc_is_integer : FnScope ["value"] ["value"] (defScope (topS 13)) := ⟨rfl, rfl, rfl, by decide +kernel, rfl, by decide +kernel, by decide +kernel⟩
def g_is_integer : En → Option Out := (iRet (eAnd (u1 isiInt (vget 0)) (eAnd (eNot (u1 isiBool (vget 0))) (chD ltD ltD (u1 negD (cst (.int (10 ^ 60)))) (vget 0) (cst (.int (10 ^ 60)))))))
def m_is_integer : List D → Option D := fnD 1 0 g_is_integer
theorem ok_is_integer {f : Addr} {fd : FuncData} (F : Fun K "is_integer" "is_integer" (topS 13) f fd) (B : Bt mg) (C : Cf K mg ct)  : FnOk P w K mg base CX0 1 f fd ["value"] (spD K ct m_is_integer) :=
  have S := sc_is_integer; ok_fn (k := 0) F S rfl fun cdv A outer s H E F0 H0 hr => (ss_one (s_ret (d_and (d_isiInt B.isinstance B.int_ (d_var 0 (pv 0))) (d_and (d_not (d_isiBool B.isinstance B.bool_ (d_var 0 (pv 0)))) (pe_one (d_chain op_lt op_lt op_ltD op_ltD (d_neg (d_globIE B.greatest)) (d_var 0 (pv 0)) (d_globIE B.greatest)))))))
theorem sc_is_from : FnScope ["value", "least", "most"] ["value", "least", "most"] (defScope (topS 14)) := ⟨rfl, rfl, rfl, by decide +kernel, rfl, by decide +kernel, by decide +kernel⟩
def g_is_from : En → Option Out := (iRet (eAnd (callD m_is_integer (aCons (vget 0) aNil)) (chD leD leD (vget 1) (vget 0) (vget 2))))
def m_is_from : List D → Option D := fnD 3 0 g_is_from
theorem ok_is_from {f : Addr} {fd : FuncData} (F : Fun K "is_from" "is_from" (topS 14) f fd) (B : Bt mg) (C : Cf K mg ct) (c_is_integer : Cal P w K mg base ct 1 "is_integer" m_is_integer) : FnOk P w K mg base CX0 2 f fd ["value", "least", "most"] (spD K ct m_is_from) :=
  have S := sc_is_from; ok_fn (k := 1) F S rfl fun cdv A outer s H E F0 H0 hr => (ss_one (s_ret (d_and (d_call c_is_integer (hr.mono (by decide)) (a_cons (d_var 0 (pv 0)) a_nil)) (pe_one (d_chain op_le op_le op_leD op_leD (d_var 1 (pv 1)) (d_var 0 (pv 0)) (d_var 2 (pv 2)))))))
theorem sc_require_from : FnScope ["value", "least", "most"] ["value", "least", "most"] (defScope (topS 15)) := ⟨rfl, rfl, rfl, by decide +kernel, rfl, by decide +kernel, by decide +kernel⟩
def g_require_from : En → Option Out := (iIf (qNot (tst (callD m_is_from (aCons (vget 0) (aCons (vget 1) (aCons (vget 2) aNil)))))) iNo iNil)
def m_require_from : List D → Option D := fnD 3 0 g_require_from
theorem ok_require_from {f : Addr} {fd : FuncData} (F : Fun K "require_from" "require_from" (topS 15) f fd) (B : Bt mg) (C : Cf K mg ct) (c_is_from : Cal P w K mg base ct 2 "is_from" m_is_from) : FnOk P w K mg base CX0 3 f fd ["value", "least", "most"] (spD K ct m_require_from) :=
  have S := sc_require_from; ok_fn (k := 2) F S rfl fun cdv A outer s H E F0 H0 hr => (ss_one (s_if (t_not (t_val (d_call c_is_from (hr.mono (by decide)) (a_cons (d_var 0 (pv 0)) (a_cons (d_var 1 (pv 1)) (a_cons (d_var 2 (pv 2)) a_nil)))))) ss_no ss_nil))
theorem sc_are_integers : FnScope ["value", "one"] ["value"] (defScope (topS 16)) := ⟨rfl, rfl, rfl, by decide +kernel, rfl, by decide +kernel, by decide +kernel⟩
def g_are_integers : En → Option Out := (iRet (eAnd (u1 isiTup (vget 0)) (callD allL (aCons (asLst (lcD (uF itemsOf (vget 0)) [1] (gNm 1) (fun _ => some true) (callD m_is_integer (aCons (vget 1) aNil)))) aNil))))
def m_are_integers : List D → Option D := fnD 1 1 g_are_integers
theorem ok_are_integers {f : Addr} {fd : FuncData} (F : Fun K "are_integers" "are_integers" (topS 16) f fd) (B : Bt mg) (C : Cf K mg ct) (c_is_integer : Cal P w K mg base ct 1 "is_integer" m_is_integer) : FnOk P w K mg base CX0 2 f fd ["value"] (spD K ct m_are_integers) :=
  have S := sc_are_integers; ok_fn (k := 1) F S rfl fun cdv A outer s H E F0 H0 hr => (ss_one (s_ret (d_and (d_isiTup B.isinstance B.tuple_ (d_var 0 (pv 0))) (pe_one (d_callB (cr_all rfl) cl_all B.all (by decide +kernel) (a_cons (d_ofF (f_lc (own := [("one", 1)]) rfl S.nd (p_any (d_var 0 (pv 0))) (blkOk_by (by dsimp only [cxOf, Cx.nox, Cx.wish, envOfC, Cx.blk, compEnvC]; first | decide +kernel | (change blkC _ (relS _ (defScope (topS 16))) _ _ = true; decide +kernel))) (fun _ _ _ _ _ => (g_name 1 S.nd (by first | exact Or.inl rfl | exact Or.inr rfl))) (fun _ _ _ _ _ => q_yes) (fun _ _ _ _ _ => (d_call c_is_integer (hr.mono (by decide)) (a_cons (d_var 1 (pv 1)) a_nil))))) a_nil))))))
theorem sc_are_ascending : FnScope ["items", "one", "other"] ["items"] (defScope (topS 17)) := ⟨rfl, rfl, rfl, by decide +kernel, rfl, by decide +kernel, by decide +kernel⟩
def g_are_ascending : En → Option Out := (iRet (callD allL (aCons (asLst (lcD (callF zipOf (aCons (vget 0) (aCons (b2 fromD (vget 0) (cst (.int 1))) aNil))) [1, 2] (gTp [1, 2]) (fun _ => some true) (b2 ltD (vget 1) (vget 2)))) aNil)))
def m_are_ascending : List D → Option D := fnD 1 2 g_are_ascending
theorem ok_are_ascending {f : Addr} {fd : FuncData} (F : Fun K "are_ascending" "are_ascending" (topS 17) f fd) (B : Bt mg) (C : Cf K mg ct)  : FnOk P w K mg base CX0 1 f fd ["items"] (spD K ct m_are_ascending) :=
  have S := sc_are_ascending; ok_fn (k := 0) F S rfl fun cdv A outer s H E F0 H0 hr => (ss_one (s_ret (d_callB (cr_all rfl) cl_all B.all (by decide +kernel) (a_cons (d_ofF (f_lc (own := [("one", 1), ("other", 2)]) rfl S.nd (p_zip B.zip (a_cons (d_var 0 (pv 0)) (a_cons (d_from (d_var 0 (pv 0)) d_int) a_nil))) (blkOk_by (by dsimp only [cxOf, Cx.nox, Cx.wish, envOfC, Cx.blk, compEnvC]; first | decide +kernel | (change blkC _ (relS _ (defScope (topS 17))) _ _ = true; decide +kernel))) (fun _ _ _ _ _ => (g_tup rfl (gs_cons 1 S.nd (by first | exact Or.inl rfl | exact Or.inr rfl) (gs_cons 2 S.nd (by first | exact Or.inl rfl | exact Or.inr rfl) gs_nil)))) (fun _ _ _ _ _ => q_yes) (fun _ _ _ _ _ => (d_cmp op_lt op_ltD (d_var 1 (pv 1)) (d_var 2 (pv 2)) (nomark _))))) a_nil))))
theorem sc_init_Slope : FnScope ["self", "rises", "steps"] ["self", "rises", "steps"] (defScope (inClass (topS 22) 1)) := ⟨rfl, rfl, rfl, by decide +kernel, rfl, by decide +kernel, by decide +kernel⟩
def g_init_Slope : En → Option Out := (iSeq (iDrop (callD m_require_from (aCons (vget 1) (aCons (cst (.int 1)) (aCons (cst (.int 60)) aNil))))) (iSeq (iDrop (callD m_require_from (aCons (vget 2) (aCons (cst (.int 1)) (aCons (cst (.int 60)) aNil))))) (iSeq (iStore 0 1 0 (vget 1)) (iSeq (iStore 0 2 0 (vget 2)) (iStore 0 0 0 (callD gcdO (aCons (vget 1) (aCons (vget 2) aNil))))))))
def m_init_Slope : List D → Option (List D) := inD 0 3 0 g_init_Slope
theorem ok_init_Slope {f : Addr} {fd : FuncData} (F : FunI K "__init__" "Slope.__init__" (inClass (topS 22) 1) f fd) (B : Bt mg) (C : Cf K mg ct) (c_require_from : Cal P w K mg base ct 3 "require_from" m_require_from) : FnOk P w K mg base CX0 4 f fd ["self", "rises", "steps"] (spI K ct 0 m_init_Slope) :=
  have S := sc_init_Slope; ok_init (k := 3) F S rfl fun cdv A outer s H E F0 H0 me hr => (ss_cons (s_drop (d_call c_require_from (hr.mono (by decide)) (a_cons (d_var 1 (pv 1)) (a_cons d_int (a_cons (d_globIE B.side) a_nil))))) (ss_cons (s_drop (d_call c_require_from (hr.mono (by decide)) (a_cons (d_var 2 (pv 2)) (a_cons d_int (a_cons (d_globIE B.side) a_nil))))) (ss_cons (s_storeE 0 1 0 C.kSlope C.own_rises (SlX.ps_sl (pv 0) (d_var 1 (pv 1)))) (ss_cons (s_storeE 0 2 0 C.kSlope C.own_steps (SlX.ps_sl (pv 0) (d_var 2 (pv 2)))) (ss_one (s_storeE 0 0 0 C.kSlope C.own_common (SlX.ps_sl (pv 0) (d_callM cr_gcd cl_gcd B.gcd (a_cons (d_var 1 (pv 1)) (a_cons (d_var 2 (pv 2)) a_nil))))))))))
end
end
end DK
/-! E1 -/
set_option Elab.async false
set_option linter.all false
set_option maxRecDepth 100000
set_option maxHeartbeats 4000000
namespace DK
noncomputable section
open PySem PySem.Spec PyProof.Rows L2
open SlX (Slt SlO slH putS Slot1 SIsi)

section
variable {P : Program} {w : World} {K : PySem.W.Frag} {mg : Str → Option Value} {base : Heap} {ct : Nat → Addr}
theorem sc_levels_of : FnScope ["slope", "text", "found", "level", "letter"] ["slope", "text"] (defScope (topS 23)) := ⟨rfl, rfl, rfl, by decide +kernel, rfl, by decide +kernel, by decide +kernel⟩
def g_levels_of : En → Option Out := (iSeq (iOwn 2 (sml aNil)) (iSeq (iSet 3 (cst (.int 0))) (iSeq (iFor (uF itemsOf (vget 1)) (gNm 4) (iSeq (iApp 2 (vget 3)) (iAug addI 3 (eIf (tst (b2 eqD (vget 4) (cst (.str [114])))) (u1 (fldD 0 2) (vget 0)) (u1 negD (u1 (fldD 0 1) (vget 0))))))) (iFrz 2 (iRet (vget 2))))))
def m_levels_of : List D → Option D := fnD 2 3 g_levels_of
theorem ok_levels_of {f : Addr} {fd : FuncData} (F : Fun K "levels_of" "levels_of" (topS 23) f fd) (B : Bt mg) (C : Cf K mg ct)  : FnOk P w K mg base CX0 1 f fd ["slope", "text"] (spD K ct m_levels_of) :=
  have S := sc_levels_of; ok_fn (k := 0) F S rfl fun cdv A outer s H E F0 H0 hr => (ss_cons (s_own 2 S.nd (by first | exact Or.inl rfl | exact Or.inr rfl) (f_lst a_nil)) (ss_cons (s_set 3 S.nd (by first | exact Or.inl rfl | exact Or.inr rfl) d_int) (ss_cons (s_for PassesOwn.never rfl (p_any (d_var 1 (pv 1))) (g_name 4 S.nd (by first | exact Or.inl rfl | exact Or.inr rfl)) (ss_cons (s_app 2 (pe_bm PySem.F.plainAttrs_list PySem.F.slot_list_append PySem.F.type_list_append mt_append (pv 2) (pa_cons (d_var 3 (pv 3)) pa_nil))) (ss_one (s_aug 3 S.nd (by first | exact Or.inl rfl | exact Or.inr rfl) (d_if (t_cmp (op_eqD hr.units) op_eqE (d_var 4 (pv 4)) (d_globSE [114] B.rise) (nomark _)) (d_fldE C.kSlope C.own_steps (d_var 0 (pv 0))) (d_neg (d_fldE C.kSlope C.own_rises (d_var 0 (pv 0))))))))) (ss_frz 2 (ss_one (s_ret (d_var 2 (pv 2))))))))
theorem sc_is_text_of : FnScope ["slope", "value"] ["slope", "value"] (defScope (topS 24)) := ⟨rfl, rfl, rfl, by decide +kernel, rfl, by decide +kernel, by decide +kernel⟩
def g_is_text_of : En → Option Out := (iSeq (iIf (qOr (qNot (tst (u1 isiStr (vget 1)))) (tst (b2 neD (callD lenO (aCons (vget 1) aNil)) (b2 addD (u1 (fldD 0 1) (vget 0)) (u1 (fldD 0 2) (vget 0)))))) (iRet (cst (.bl false))) iNil) (iRet (eAnd (b2 eqD (b2 cntD (vget 1) (cst (.str [114]))) (u1 (fldD 0 1) (vget 0))) (b2 eqD (b2 cntD (vget 1) (cst (.str [115]))) (u1 (fldD 0 2) (vget 0))))))
def m_is_text_of : List D → Option D := fnD 2 0 g_is_text_of
theorem ok_is_text_of {f : Addr} {fd : FuncData} (F : Fun K "is_text_of" "is_text_of" (topS 24) f fd) (B : Bt mg) (C : Cf K mg ct)  : FnOk P w K mg base CX0 1 f fd ["slope", "value"] (spD K ct m_is_text_of) :=
  have S := sc_is_text_of; ok_fn (k := 0) F S rfl fun cdv A outer s H E F0 H0 hr => (ss_cons (s_if (PW.pt (w_or (t_not (t_val (d_isiStr B.isinstance B.str_ (d_var 1 (pv 1))))) (w_or1 (t_cmp (op_neD hr.units) op_neE (d_callB (call_len_seq.or call_len_str) cl_len B.len PySem.boot_len (a_cons (d_var 1 (pv 1)) a_nil)) (d_add (d_fldE C.kSlope C.own_rises (d_var 0 (pv 0))) (d_fldE C.kSlope C.own_steps (d_var 0 (pv 0)))) (nomark _))))) (ss_one (s_ret d_bl)) ss_nil) (ss_one (s_ret (d_and (d_cmp (op_eqD hr.units) op_eqE (d_count (pe_bm PySem.F.plainAttrs_str PySem.F.slot_str_count PySem.F.type_str_count mt_count (d_var 1 (pv 1)) (pa_cons (d_globSE [114] B.rise) pa_nil))) (d_fldE C.kSlope C.own_rises (d_var 0 (pv 0))) (nomark _)) (pe_one (d_cmp (op_eqD hr.units) op_eqE (d_count (pe_bm PySem.F.plainAttrs_str PySem.F.slot_str_count PySem.F.type_str_count mt_count (d_var 1 (pv 1)) (pa_cons (d_globSE [115] B.step) pa_nil))) (d_fldE C.kSlope C.own_steps (d_var 0 (pv 0))) (nomark _)))))))
theorem sc_is_way_text : FnScope ["slope", "value"] ["slope", "value"] (defScope (topS 25)) := ⟨rfl, rfl, rfl, by decide +kernel, rfl, by decide +kernel, by decide +kernel⟩
def g_is_way_text : En → Option Out := (iRet (eAnd (callD m_is_text_of (aCons (vget 0) (aCons (vget 1) aNil))) (b2 geD (callD minL (aCons (callD m_levels_of (aCons (vget 0) (aCons (vget 1) aNil))) aNil)) (cst (.int 0)))))
def m_is_way_text : List D → Option D := fnD 2 0 g_is_way_text
theorem ok_is_way_text {f : Addr} {fd : FuncData} (F : Fun K "is_way_text" "is_way_text" (topS 25) f fd) (B : Bt mg) (C : Cf K mg ct) (c_levels_of : Cal P w K mg base ct 1 "levels_of" m_levels_of) (c_is_text_of : Cal P w K mg base ct 1 "is_text_of" m_is_text_of) : FnOk P w K mg base CX0 2 f fd ["slope", "value"] (spD K ct m_is_way_text) :=
  have S := sc_is_way_text; ok_fn (k := 1) F S rfl fun cdv A outer s H E F0 H0 hr => (ss_one (s_ret (d_and (d_call c_is_text_of (hr.mono (by decide)) (a_cons (d_var 0 (pv 0)) (a_cons (d_var 1 (pv 1)) a_nil))) (pe_one (d_cmp op_ge op_geD (d_callB (cr_min rfl) cl_min B.min (by decide +kernel) (a_cons (d_call c_levels_of (hr.mono (by decide)) (a_cons (d_var 0 (pv 0)) (a_cons (d_var 1 (pv 1)) a_nil))) a_nil)) d_int (nomark _))))))
theorem sc_require_slope : FnScope ["value"] ["value"] (defScope (topS 27)) := ⟨rfl, rfl, rfl, by decide +kernel, rfl, by decide +kernel, by decide +kernel⟩
def g_require_slope : En → Option Out := (iIf (qNot (tst (u1 (isoD 0) (vget 0)))) iNo iNil)
def m_require_slope : List D → Option D := fnD 1 0 g_require_slope
theorem ok_require_slope {f : Addr} {fd : FuncData} (F : Fun K "require_slope" "require_slope" (topS 27) f fd) (B : Bt mg) (C : Cf K mg ct)  : FnOk P w K mg base CX0 1 f fd ["value"] (spD K ct m_require_slope) :=
  have S := sc_require_slope; ok_fn (k := 0) F S rfl fun cdv A outer s H E F0 H0 hr => (ss_one (s_if (t_not (t_val (d_isiO B.isinstance C.kSlope (d_var 0 (pv 0))))) ss_no ss_nil))
theorem sc_require_coprime : FnScope ["slope"] ["slope"] (defScope (topS 28)) := ⟨rfl, rfl, rfl, by decide +kernel, rfl, by decide +kernel, by decide +kernel⟩
def g_require_coprime : En → Option Out := (iIf (tst (b2 gtD (u1 (fldD 0 0) (vget 0)) (cst (.int 1)))) iNo iNil)
def m_require_coprime : List D → Option D := fnD 1 0 g_require_coprime
theorem ok_require_coprime {f : Addr} {fd : FuncData} (F : Fun K "require_coprime" "require_coprime" (topS 28) f fd) (B : Bt mg) (C : Cf K mg ct)  : FnOk P w K mg base CX0 1 f fd ["slope"] (spD K ct m_require_coprime) :=
  have S := sc_require_coprime; ok_fn (k := 0) F S rfl fun cdv A outer s H E F0 H0 hr => (ss_one (s_if (t_cmp op_gt op_gtD (d_fldE C.kSlope C.own_common (d_var 0 (pv 0))) d_int (nomark _)) ss_no ss_nil))
theorem sc_require_way : FnScope ["value"] ["value"] (defScope (topS 29)) := ⟨rfl, rfl, rfl, by decide +kernel, rfl, by decide +kernel, by decide +kernel⟩
def g_require_way : En → Option Out := (iIf (qNot (tst (u1 (isoD 1) (vget 0)))) iNo iNil)
def m_require_way : List D → Option D := fnD 1 0 g_require_way
theorem ok_require_way {f : Addr} {fd : FuncData} (F : Fun K "require_way" "require_way" (topS 29) f fd) (B : Bt mg) (C : Cf K mg ct)  : FnOk P w K mg base CX0 1 f fd ["value"] (spD K ct m_require_way) :=
  have S := sc_require_way; ok_fn (k := 0) F S rfl fun cdv A outer s H E F0 H0 hr => (ss_one (s_if (t_not (t_val (d_isiO B.isinstance C.kWay (d_var 0 (pv 0))))) ss_no ss_nil))
theorem sc_slope_half : FnScope ["self"] ["self"] (defScope (inClass (topS 22) 7)) := ⟨rfl, rfl, rfl, by decide +kernel, rfl, by decide +kernel, by decide +kernel⟩
def g_slope_half : En → Option Out := (iSeq (iDrop (callD m_require_coprime (aCons (vget 0) aNil))) (iRet (b2 divD (b2 mulD (b2 subD (u1 (fldD 0 1) (vget 0)) (cst (.int 1))) (b2 subD (u1 (fldD 0 2) (vget 0)) (cst (.int 1)))) (cst (.int 2)))))
def m_slope_half : List D → Option D := fnD 1 0 g_slope_half
theorem ok_slope_half {f : Addr} {fd : FuncData} (F : Fun K "half" "Slope.half" (inClass (topS 22) 7) f fd) (B : Bt mg) (C : Cf K mg ct) (c_require_coprime : Cal P w K mg base ct 1 "require_coprime" m_require_coprime) : FnOk P w K mg base CX0 2 f fd ["self"] (spD K ct m_slope_half) :=
  have S := sc_slope_half; ok_fn (k := 1) F S rfl fun cdv A outer s H E F0 H0 hr => (ss_cons (s_drop (d_call c_require_coprime (hr.mono (by decide)) (a_cons (d_var 0 (pv 0)) a_nil))) (ss_one (s_ret (d_div (d_mul (d_sub (d_fldE C.kSlope C.own_rises (d_var 0 (pv 0))) d_int) (d_sub (d_fldE C.kSlope C.own_steps (d_var 0 (pv 0))) d_int)) d_int))))
theorem sc_init_Way : FnScope ["self", "slope", "text"] ["self", "slope", "text"] (defScope (inClass (topS 26) 1)) := ⟨rfl, rfl, rfl, by decide +kernel, rfl, by decide +kernel, by decide +kernel⟩
def g_init_Way : En → Option Out := (iSeq (iDrop (callD m_require_slope (aCons (vget 1) aNil))) (iSeq (iIf (qNot (tst (callD m_is_way_text (aCons (vget 1) (aCons (vget 2) aNil))))) iNo iNil) (iSeq (iStore 0 1 1 (vget 1)) (iSeq (iStore 0 2 1 (vget 2)) (iStore 0 0 1 (asTup (sml (aCons (u1 (fldD 0 1) (vget 1)) (aCons (u1 (fldD 0 2) (vget 1)) (aCons (vget 2) aNil))))))))))
def m_init_Way : List D → Option (List D) := inD 1 3 0 g_init_Way
theorem ok_init_Way {f : Addr} {fd : FuncData} (F : FunI K "__init__" "Way.__init__" (inClass (topS 26) 1) f fd) (B : Bt mg) (C : Cf K mg ct) (c_require_slope : Cal P w K mg base ct 1 "require_slope" m_require_slope) (c_is_way_text : Cal P w K mg base ct 2 "is_way_text" m_is_way_text) : FnOk P w K mg base CX0 3 f fd ["self", "slope", "text"] (spI K ct 1 m_init_Way) :=
  have S := sc_init_Way; ok_init (k := 2) F S rfl fun cdv A outer s H E F0 H0 me hr => (ss_cons (s_drop (d_call c_require_slope (hr.mono (by decide)) (a_cons (d_var 1 (pv 1)) a_nil))) (ss_cons (s_if (t_not (t_val (d_call c_is_way_text (hr.mono (by decide)) (a_cons (d_var 1 (pv 1)) (a_cons (d_var 2 (pv 2)) a_nil))))) ss_no ss_nil) (ss_cons (s_storeE 0 1 1 C.kWay C.own_slope1 (SlX.ps_sl (pv 0) (d_var 1 (pv 1)))) (ss_cons (s_storeE 0 2 1 C.kWay C.own_text (SlX.ps_sl (pv 0) (d_var 2 (pv 2)))) (ss_one (s_storeE 0 0 1 C.kWay C.own_key1 (SlX.ps_sl (pv 0) (d_tup (a_cons (d_fldE C.kSlope C.own_rises (d_var 1 (pv 1))) (a_cons (d_fldE C.kSlope C.own_steps (d_var 1 (pv 1))) (a_cons (d_var 2 (pv 2)) a_nil)))))))))))
theorem sc_way_text : FnScope ["self"] ["self"] (defScope (inClass (topS 26) 3)) := ⟨rfl, rfl, rfl, by decide +kernel, rfl, by decide +kernel, by decide +kernel⟩
def g_way_text : En → Option Out := (iRet (u1 (fldD 1 2) (vget 0)))
def m_way_text : List D → Option D := fnD 1 0 g_way_text
theorem ok_way_text {f : Addr} {fd : FuncData} (F : Fun K "text" "Way.text" (inClass (topS 26) 3) f fd) (B : Bt mg) (C : Cf K mg ct)  : FnOk P w K mg base CX0 1 f fd ["self"] (spD K ct m_way_text) :=
  have S := sc_way_text; ok_fn (k := 0) F S rfl fun cdv A outer s H E F0 H0 hr => (ss_one (s_ret (d_fldE C.kWay C.own_text (d_var 0 (pv 0)))))
theorem sc_way_eq : FnScope ["self", "other"] ["self", "other"] (defScope (inClass (topS 26) 10)) := ⟨rfl, rfl, rfl, by decide +kernel, rfl, by decide +kernel, by decide +kernel⟩
def g_way_eq : En → Option Out := (iRet (eAnd (u1 (isoD 1) (vget 1)) (b2 eqD (u1 (fldD 1 0) (vget 0)) (u1 (fldD 1 0) (vget 1)))))
def m_way_eq : List D → Option D := fnD 2 0 g_way_eq
theorem ok_way_eq {f : Addr} {fd : FuncData} (F : Fun K "__eq__" "Way.__eq__" (inClass (topS 26) 10) f fd) (B : Bt mg) (C : Cf K mg ct)  : FnOk P w K mg base CX0 1 f fd ["self", "other"] (spD K ct m_way_eq) :=
  have S := sc_way_eq; ok_fn (k := 0) F S rfl fun cdv A outer s H E F0 H0 hr => (ss_one (s_ret (d_and (d_isiO B.isinstance C.kWay (d_var 1 (pv 1))) (pe_one (d_cmp (op_eqD hr.units) op_eqE (d_fldE C.kWay C.own_key1 (d_var 0 (pv 0))) (d_fldE C.kWay C.own_key1 (d_var 1 (pv 1))) (nomark _))))))
theorem sc_count_of_ways : FnScope ["slope", "common", "rises", "both", "found", "many", "parts", "part"] ["slope"] (defScope (topS 30)) := ⟨rfl, rfl, rfl, by decide +kernel, rfl, by decide +kernel, by decide +kernel⟩
def g_count_of_ways : En → Option Out := (iSeq (iSet 1 (u1 (fldD 0 0) (vget 0))) (iSeq (iPar [2, 3] (aCons (b2 divD (u1 (fldD 0 1) (vget 0)) (vget 1)) (aCons (b2 divD (b2 addD (u1 (fldD 0 1) (vget 0)) (u1 (fldD 0 2) (vget 0))) (vget 1)) aNil))) (iSeq (iOwn 4 (sml (aCons (cst (.int 1)) aNil))) (iSeq (iFor (callF rg2 (aCons (cst (.int 1)) (aCons (b2 addD (vget 1) (cst (.int 1))) aNil))) (gNm 5) (iSeq (iOwn 6 (lcD (callF rg2 (aCons (cst (.int 1)) (aCons (b2 addD (vget 5) (cst (.int 1))) aNil))) [7] (gNm 7) (fun _ => some true) (peek 4 (b2 mulD (b2 ixD (vget 4) (b2 subD (vget 5) (vget 7))) (b2 divD (callD combO (aCons (b2 mulD (vget 7) (vget 3)) (aCons (b2 mulD (vget 7) (vget 2)) aNil))) (vget 3)))))) (iFrz 6 (iApp 4 (b2 divD (callD sumO (aCons (vget 6) aNil)) (vget 5)))))) (iFrz 4 (iRet (b2 ixD (vget 4) (vget 1))))))))
def m_count_of_ways : List D → Option D := fnD 1 7 g_count_of_ways
theorem ok_count_of_ways {f : Addr} {fd : FuncData} (F : Fun K "count_of_ways" "count_of_ways" (topS 30) f fd) (B : Bt mg) (C : Cf K mg ct)  : FnOk P w K mg base CX0 1 f fd ["slope"] (spD K ct m_count_of_ways) :=
  have S := sc_count_of_ways; ok_fn (k := 0) F S rfl fun cdv A outer s H E F0 H0 hr => (ss_cons (s_set 1 S.nd (by first | exact Or.inl rfl | exact Or.inr rfl) (d_fldE C.kSlope C.own_common (d_var 0 (pv 0)))) (ss_cons (s_parT (is := [2, 3]) (by decide) (ps_asg (pe_tup (m_cons (d_div (d_fldE C.kSlope C.own_rises (d_var 0 (pv 0))) (d_var 1 (pv 1))) (m_cons (d_div (d_add (d_fldE C.kSlope C.own_rises (d_var 0 (pv 0))) (d_fldE C.kSlope C.own_steps (d_var 0 (pv 0)))) (d_var 1 (pv 1))) m_nil))) (pg_tup rfl (pgs_cons (pg_name (i := 2) S.nd rfl (by first | exact Or.inl rfl | exact Or.inr rfl)) (pgs_cons (pg_name (i := 3) S.nd rfl (by first | exact Or.inl rfl | exact Or.inr rfl)) pgs_nil))))) (ss_cons (s_own 4 S.nd (by first | exact Or.inl rfl | exact Or.inr rfl) (f_lst (a_cons d_int a_nil))) (ss_cons (s_for PassesOwn.never rfl (p_range2 B.range (a_cons d_int (a_cons (d_add (d_var 1 (pv 1)) d_int) a_nil))) (g_name 5 S.nd (by first | exact Or.inl rfl | exact Or.inr rfl)) (ss_cons (s_ownLc (own := [("part", 7)]) 6 rfl S.nd rfl rfl (sw_true rfl rfl rfl (by decide +kernel)) (p_range2 B.range (a_cons d_int (a_cons (d_add (d_var 5 (pv 5)) d_int) a_nil))) (blkOk_by (by dsimp only [cxOf, Cx.nox, Cx.wish, envOfC, Cx.blk, compEnvC]; first | decide +kernel | (change blkC _ (relS _ (defScope (topS 30))) _ _ = true; decide +kernel))) (fun _ _ _ _ _ => (g_name 7 S.nd (by first | exact Or.inl rfl | exact Or.inr rfl))) (fun _ _ _ _ _ => q_yes) (fun _ _ _ _ _ => (d_peek 4 (d_mul (d_ix (d_var 4 (pv 4)) (d_sub (d_var 5 (pv 5)) (d_var 7 (pv 7)))) (d_div (d_callM cr_comb cl_comb B.comb (a_cons (d_mul (d_var 7 (pv 7)) (d_var 3 (pv 3))) (a_cons (d_mul (d_var 7 (pv 7)) (d_var 2 (pv 2))) a_nil))) (d_var 3 (pv 3))))))) (ss_frz 6 (ss_one (s_app 4 (pe_bm PySem.F.plainAttrs_list PySem.F.slot_list_append PySem.F.type_list_append mt_append (pv 4) (pa_cons (d_div (d_callB (cr_sumO rfl) cl_sumO B.sum (by decide +kernel) (a_cons (d_var 6 (pv 6)) a_nil)) (d_var 5 (pv 5))) pa_nil))))))) (ss_frz 4 (ss_one (s_ret (d_ix (d_var 4 (pv 4)) (d_var 1 (pv 1))))))))))
theorem sc_can_step : FnScope ["slope", "rises", "steps"] ["slope", "rises", "steps"] (defScope (topS 31)) := ⟨rfl, rfl, rfl, by decide +kernel, rfl, by decide +kernel, by decide +kernel⟩
def g_can_step : En → Option Out := (iRet (eAnd (b2 gtD (vget 2) (cst (.int 0))) (b2 geD (b2 mulD (u1 (fldD 0 1) (vget 0)) (b2 subD (vget 2) (cst (.int 1)))) (b2 mulD (u1 (fldD 0 2) (vget 0)) (vget 1)))))
def m_can_step : List D → Option D := fnD 3 0 g_can_step
theorem ok_can_step {f : Addr} {fd : FuncData} (F : Fun K "can_step" "can_step" (topS 31) f fd) (B : Bt mg) (C : Cf K mg ct)  : FnOk P w K mg base CX0 1 f fd ["slope", "rises", "steps"] (spD K ct m_can_step) :=
  have S := sc_can_step; ok_fn (k := 0) F S rfl fun cdv A outer s H E F0 H0 hr => (ss_one (s_ret (d_and (d_cmp op_gt op_gtD (d_var 2 (pv 2)) d_int (nomark _)) (pe_one (d_cmp op_ge op_geD (d_mul (d_fldE C.kSlope C.own_rises (d_var 0 (pv 0))) (d_sub (d_var 2 (pv 2)) d_int)) (d_mul (d_fldE C.kSlope C.own_steps (d_var 0 (pv 0))) (d_var 1 (pv 1))) (nomark _))))))
theorem sc_highest : FnScope ["slope"] ["slope"] (defScope (topS 33)) := ⟨rfl, rfl, rfl, by decide +kernel, rfl, by decide +kernel, by decide +kernel⟩
def g_highest : En → Option Out := (iSeq (iDrop (callD m_require_slope (aCons (vget 0) aNil))) (iRet (makeD 1 m_init_Way (aCons (vget 0) (aCons (b2 addD (b2 mulS (cst (.str [114])) (u1 (fldD 0 1) (vget 0))) (b2 mulS (cst (.str [115])) (u1 (fldD 0 2) (vget 0)))) aNil)))))
def m_highest : List D → Option D := fnD 1 0 g_highest
theorem ok_highest {f : Addr} {fd : FuncData} (F : Fun K "highest" "highest" (topS 33) f fd) (B : Bt mg) (C : Cf K mg ct) (c_require_slope : Cal P w K mg base ct 1 "require_slope" m_require_slope) (c_Way : Mak P w K mg base ct 3 "Way" 1 m_init_Way) : FnOk P w K mg base CX0 5 f fd ["slope"] (spD K ct m_highest) :=
  have S := sc_highest; ok_fn (k := 4) F S rfl fun cdv A outer s H E F0 H0 hr => (ss_cons (s_drop (d_call c_require_slope (hr.mono (by decide)) (a_cons (d_var 0 (pv 0)) a_nil))) (ss_one (s_ret (d_make c_Way (hr.mono (by decide)) (a_cons (d_var 0 (pv 0)) (a_cons (d_add (d_mulS (d_globSE [114] B.rise) (d_fldE C.kSlope C.own_rises (d_var 0 (pv 0)))) (d_mulS (d_globSE [115] B.step) (d_fldE C.kSlope C.own_steps (d_var 0 (pv 0))))) a_nil))))))
theorem sc_lowest : FnScope ["slope", "text", "rises", "steps"] ["slope"] (defScope (topS 34)) := ⟨rfl, rfl, rfl, by decide +kernel, rfl, by decide +kernel, by decide +kernel⟩
def g_lowest : En → Option Out := (iSeq (iDrop (callD m_require_slope (aCons (vget 0) aNil))) (iSeq (iPar [1, 2, 3] (aCons (cst (.str [])) (aCons (u1 (fldD 0 1) (vget 0)) (aCons (u1 (fldD 0 2) (vget 0)) aNil)))) (iSeq (whD (tst (b2 gtD (b2 addD (vget 2) (vget 3)) (cst (.int 0)))) (iIf (tst (callD m_can_step (aCons (vget 0) (aCons (vget 2) (aCons (vget 3) aNil))))) (iPar [1, 3] (aCons (b2 addD (vget 1) (cst (.str [115]))) (aCons (b2 subD (vget 3) (cst (.int 1))) aNil))) (iPar [1, 2] (aCons (b2 addD (vget 1) (cst (.str [114]))) (aCons (b2 subD (vget 2) (cst (.int 1))) aNil)))) 30) (iRet (makeD 1 m_init_Way (aCons (vget 0) (aCons (vget 1) aNil)))))))
def m_lowest : List D → Option D := fnD 1 3 g_lowest
theorem ok_lowest {f : Addr} {fd : FuncData} (F : Fun K "lowest" "lowest" (topS 34) f fd) (B : Bt mg) (C : Cf K mg ct) (c_require_slope : Cal P w K mg base ct 1 "require_slope" m_require_slope) (c_can_step : Cal P w K mg base ct 1 "can_step" m_can_step) (c_Way : Mak P w K mg base ct 3 "Way" 1 m_init_Way) : FnOk P w K mg base CX0 5 f fd ["slope"] (spD K ct m_lowest) :=
  have S := sc_lowest; ok_fn (k := 4) F S rfl fun cdv A outer s H E F0 H0 hr => (ss_cons (s_drop (d_call c_require_slope (hr.mono (by decide)) (a_cons (d_var 0 (pv 0)) a_nil))) (ss_cons (s_par3 1 2 3 (ps_par3 rfl S.nd rfl rfl rfl (by decide) (by decide) (by decide) rfl rfl rfl (m_cons (d_str [] (by decide +kernel)) (m_cons (d_fldE C.kSlope C.own_rises (d_var 0 (pv 0))) (m_cons (d_fldE C.kSlope C.own_steps (d_var 0 (pv 0))) m_nil))) (by rfl))) (ss_cons (s_while 30 PassesOwn.never (t_cmp op_gt op_gtD (d_add (d_var 2 (pv 2)) (d_var 3 (pv 3))) d_int (nomark _)) (ss_one (s_if (t_val (d_call c_can_step (hr.mono (by decide)) (a_cons (d_var 0 (pv 0)) (a_cons (d_var 2 (pv 2)) (a_cons (d_var 3 (pv 3)) a_nil))))) (ss_one (s_par2 1 3 (ps_par rfl S.nd rfl rfl (by decide) rfl rfl (m_cons (d_add (d_var 1 (pv 1)) (d_globSE [115] B.step)) (m_cons (d_sub (d_var 3 (pv 3)) d_int) m_nil)) (by rfl)))) (ss_one (s_par2 1 2 (ps_par rfl S.nd rfl rfl (by decide) rfl rfl (m_cons (d_add (d_var 1 (pv 1)) (d_globSE [114] B.rise)) (m_cons (d_sub (d_var 2 (pv 2)) d_int) m_nil)) (by rfl))))))) (ss_one (s_ret (d_make c_Way (hr.mono (by decide)) (a_cons (d_var 0 (pv 0)) (a_cons (d_var 1 (pv 1)) a_nil))))))))
end
end
end DK
/-! E2 -/
set_option Elab.async false
set_option linter.all false
set_option maxRecDepth 100000
set_option maxHeartbeats 4000000
namespace DK
noncomputable section
open PySem PySem.Spec PyProof.Rows L2
open SlX (Slt SlO slH putS Slot1 SIsi)

section
variable {P : Program} {w : World} {K : PySem.W.Frag} {mg : Str → Option Value} {base : Heap} {ct : Nat → Addr}
theorem sc_are_gaps : FnScope ["slope", "value", "known", "sides", "gap", "side"] ["slope", "value"] (defScope (topS 37)) := ⟨rfl, rfl, rfl, by decide +kernel, rfl, by decide +kernel, by decide +kernel⟩
def g_are_gaps : En → Option Out := (iSeq (iIf (qOr (qNot (tst (callD m_are_integers (aCons (vget 1) aNil)))) (qNot (tst (callD m_are_ascending (aCons (vget 1) aNil))))) (iRet (cst (.bl false))) iNil) (iSeq (iPar [2, 3] (aCons (dcD (uF itemsOf (vget 1)) [4] (gNm 4) (vget 4)) (aCons (asTup (sml (aCons (u1 (fldD 0 1) (vget 0)) (aCons (u1 (fldD 0 2) (vget 0)) aNil)))) aNil))) (iSeq (iFor (uF itemsOf (vget 1)) (gNm 4) (iIf (qOr (tst (b2 ltD (vget 4) (cst (.int 1)))) (qOr (tst (b2 inT (vget 4) (vget 3))) (qNot (tst (callD allL (aCons (asLst (lcD (uF itemsOf (vget 3)) [5] (gNm 5) (fun _ => some true) (eOr (b2 ltD (vget 4) (vget 5)) (b2 inS (b2 subD (vget 4) (vget 5)) (vget 2))))) aNil)))))) (iRet (cst (.bl false))) iNil)) (iRet (cst (.bl true))))))
def m_are_gaps : List D → Option D := fnD 2 4 g_are_gaps
theorem ok_are_gaps {f : Addr} {fd : FuncData} (F : Fun K "are_gaps" "are_gaps" (topS 37) f fd) (B : Bt mg) (C : Cf K mg ct) (c_are_ascending : Cal P w K mg base ct 1 "are_ascending" m_are_ascending) (c_are_integers : Cal P w K mg base ct 2 "are_integers" m_are_integers) : FnOk P w K mg base CX0 3 f fd ["slope", "value"] (spD K ct m_are_gaps) :=
  have S := sc_are_gaps; ok_fn (k := 2) F S rfl fun cdv A outer s H E F0 H0 hr => (ss_cons (s_if (PW.pt (w_or (t_not (t_val (d_call c_are_integers (hr.mono (by decide)) (a_cons (d_var 1 (pv 1)) a_nil)))) (w_or1 (t_not (t_val (d_call c_are_ascending (hr.mono (by decide)) (a_cons (d_var 1 (pv 1)) a_nil))))))) (ss_one (s_ret d_bl)) ss_nil) (ss_cons (s_parT (is := [2, 3]) (by decide) (ps_asg (pe_tup (m_cons (d_dc (own := [("gap", 4)]) rfl S.nd (p_any (d_var 1 (pv 1))) (blkOk_by (by dsimp only [cxOf, Cx.nox, Cx.wish, envOfC, Cx.blk, compEnvC]; first | decide +kernel | (change blkC _ (relS _ (defScope (topS 37))) _ _ = true; decide +kernel))) (fun _ _ _ _ _ => (g_name 4 S.nd (by first | exact Or.inl rfl | exact Or.inr rfl))) (fun _ _ _ _ _ => q_yes) (fun _ _ _ _ _ => (d_var 4 (pv 4)))) (m_cons (d_tup (a_cons (d_fldE C.kSlope C.own_rises (d_var 0 (pv 0))) (a_cons (d_fldE C.kSlope C.own_steps (d_var 0 (pv 0))) a_nil))) m_nil))) (pg_tup rfl (pgs_cons (pg_name (i := 2) S.nd rfl (by first | exact Or.inl rfl | exact Or.inr rfl)) (pgs_cons (pg_name (i := 3) S.nd rfl (by first | exact Or.inl rfl | exact Or.inr rfl)) pgs_nil))))) (ss_cons (s_for PassesOwn.never rfl (p_any (d_var 1 (pv 1))) (g_name 4 S.nd (by first | exact Or.inl rfl | exact Or.inr rfl)) (ss_one (s_if (PW.pt (w_or (t_cmp op_lt op_ltD (d_var 4 (pv 4)) d_int (nomark _)) (w_or (t_in (d_var 4 (pv 4)) (d_var 3 (pv 3)) (by rfl)) (w_or1 (t_not (t_val (d_callB (cr_all rfl) cl_all B.all (by decide +kernel) (a_cons (d_ofF (f_lc (own := [("side", 5)]) rfl S.nd (p_any (d_var 3 (pv 3))) (blkOk_by (by dsimp only [cxOf, Cx.nox, Cx.wish, envOfC, Cx.blk, compEnvC]; first | decide +kernel | (change blkC _ (relS _ (defScope (topS 37))) _ _ = true; decide +kernel))) (fun _ _ _ _ _ => (g_name 5 S.nd (by first | exact Or.inl rfl | exact Or.inr rfl))) (fun _ _ _ _ _ => q_yes) (fun _ _ _ _ _ => (d_or (d_cmp op_lt op_ltD (d_var 4 (pv 4)) (d_var 5 (pv 5)) (nomark _)) (pe_one (d_inD (hu_of hr) (d_sub (d_var 4 (pv 4)) (d_var 5 (pv 5))) (d_var 2 (pv 2)))))))) a_nil)))))))) (ss_one (s_ret d_bl)) ss_nil))) (ss_one (s_ret d_bl)))))
theorem sc_least_by : FnScope ["gaps", "side", "found", "rest", "gap"] ["gaps", "side"] (defScope (topS 38)) := ⟨rfl, rfl, rfl, by decide +kernel, rfl, by decide +kernel, by decide +kernel⟩
def g_least_by : En → Option Out := (iSeq (iOwn 2 (lcD (callF rg1 (aCons (vget 1) aNil)) [3] (gNm 3) (fun _ => some true) (vget 3))) (iSeq (iFor (uF itemsOf (vget 0)) (gNm 4) (iSetIx 2 (b2 modD (vget 4) (vget 1)) (peek 2 (b2 addD (b2 ixD (vget 2) (b2 modD (vget 4) (vget 1))) (vget 1))))) (iFrz 2 (iRet (callD tupO (aCons (vget 2) aNil))))))
def m_least_by : List D → Option D := fnD 2 3 g_least_by
theorem ok_least_by {f : Addr} {fd : FuncData} (F : Fun K "least_by" "least_by" (topS 38) f fd) (B : Bt mg) (C : Cf K mg ct)  : FnOk P w K mg base CX0 1 f fd ["gaps", "side"] (spD K ct m_least_by) :=
  have S := sc_least_by; ok_fn (k := 0) F S rfl fun cdv A outer s H E F0 H0 hr => (ss_cons (s_ownLc (own := [("rest", 3)]) 2 rfl S.nd rfl rfl (sw_true rfl rfl rfl (by decide +kernel)) (p_range1 B.range (a_cons (d_var 1 (pv 1)) a_nil)) (blkOk_by (by dsimp only [cxOf, Cx.nox, Cx.wish, envOfC, Cx.blk, compEnvC]; first | decide +kernel | (change blkC _ (relS _ (defScope (topS 38))) _ _ = true; decide +kernel))) (fun _ _ _ _ _ => (g_name 3 S.nd (by first | exact Or.inl rfl | exact Or.inr rfl))) (fun _ _ _ _ _ => q_yes) (fun _ _ _ _ _ => (d_var 3 (pv 3)))) (ss_cons (s_for PassesOwn.never rfl (p_any (d_var 0 (pv 0))) (g_name 4 S.nd (by first | exact Or.inl rfl | exact Or.inr rfl)) (ss_one (s_setIx 2 (ps_asg (d_peek 2 (d_add (d_ix (d_var 2 (pv 2)) (d_mod (d_var 4 (pv 4)) (d_var 1 (pv 1)))) (d_var 1 (pv 1)))) (pg_sub (pv 2) (d_mod (d_var 4 (pv 4)) (d_var 1 (pv 1))) set_list))))) (ss_frz 2 (ss_one (s_ret (d_callTy call_tuple_of cl_tup B.tuple_ (by decide +kernel) (a_cons (d_var 2 (pv 2)) a_nil)))))))
theorem sc_init_Shelf : FnScope ["self", "slope", "gaps"] ["self", "slope", "gaps"] (defScope (inClass (topS 40) 1)) := ⟨rfl, rfl, rfl, by decide +kernel, rfl, by decide +kernel, by decide +kernel⟩
def g_init_Shelf : En → Option Out := (iSeq (iDrop (callD m_require_slope (aCons (vget 1) aNil))) (iSeq (iDrop (callD m_require_coprime (aCons (vget 1) aNil))) (iSeq (iIf (qNot (tst (callD m_are_gaps (aCons (vget 1) (aCons (vget 2) aNil))))) iNo iNil) (iSeq (iStore 0 2 2 (vget 1)) (iSeq (iStore 0 0 2 (vget 2)) (iStore 0 1 2 (callD m_least_by (aCons (vget 2) (aCons (u1 (fldD 0 1) (vget 1)) aNil)))))))))
def m_init_Shelf : List D → Option (List D) := inD 2 3 0 g_init_Shelf
theorem ok_init_Shelf {f : Addr} {fd : FuncData} (F : FunI K "__init__" "Shelf.__init__" (inClass (topS 40) 1) f fd) (B : Bt mg) (C : Cf K mg ct) (c_require_slope : Cal P w K mg base ct 1 "require_slope" m_require_slope) (c_require_coprime : Cal P w K mg base ct 1 "require_coprime" m_require_coprime) (c_are_gaps : Cal P w K mg base ct 3 "are_gaps" m_are_gaps) (c_least_by : Cal P w K mg base ct 1 "least_by" m_least_by) : FnOk P w K mg base CX0 4 f fd ["self", "slope", "gaps"] (spI K ct 2 m_init_Shelf) :=
  have S := sc_init_Shelf; ok_init (k := 3) F S rfl fun cdv A outer s H E F0 H0 me hr => (ss_cons (s_drop (d_call c_require_slope (hr.mono (by decide)) (a_cons (d_var 1 (pv 1)) a_nil))) (ss_cons (s_drop (d_call c_require_coprime (hr.mono (by decide)) (a_cons (d_var 1 (pv 1)) a_nil))) (ss_cons (s_if (t_not (t_val (d_call c_are_gaps (hr.mono (by decide)) (a_cons (d_var 1 (pv 1)) (a_cons (d_var 2 (pv 2)) a_nil))))) ss_no ss_nil) (ss_cons (s_storeE 0 2 2 C.kShelf C.own_slope2 (SlX.ps_sl (pv 0) (d_var 1 (pv 1)))) (ss_cons (s_storeE 0 0 2 C.kShelf C.own_gaps (SlX.ps_sl (pv 0) (d_var 2 (pv 2)))) (ss_one (s_storeE 0 1 2 C.kShelf C.own_least (SlX.ps_sl (pv 0) (d_call c_least_by (hr.mono (by decide)) (a_cons (d_var 2 (pv 2)) (a_cons (d_fldE C.kSlope C.own_rises (d_var 1 (pv 1))) a_nil)))))))))))
theorem sc_shelf_slope : FnScope ["self"] ["self"] (defScope (inClass (topS 40) 4)) := ⟨rfl, rfl, rfl, by decide +kernel, rfl, by decide +kernel, by decide +kernel⟩
def g_shelf_slope : En → Option Out := (iRet (u1 (fldD 2 2) (vget 0)))
def m_shelf_slope : List D → Option D := fnD 1 0 g_shelf_slope
theorem ok_shelf_slope {f : Addr} {fd : FuncData} (F : Fun K "slope" "Shelf.slope" (inClass (topS 40) 4) f fd) (B : Bt mg) (C : Cf K mg ct)  : FnOk P w K mg base CX0 1 f fd ["self"] (spD K ct m_shelf_slope) :=
  have S := sc_shelf_slope; ok_fn (k := 0) F S rfl fun cdv A outer s H E F0 H0 hr => (ss_one (s_ret (d_fldE C.kShelf C.own_slope2 (d_var 0 (pv 0)))))
theorem sc_shelf_gaps : FnScope ["self"] ["self"] (defScope (inClass (topS 40) 5)) := ⟨rfl, rfl, rfl, by decide +kernel, rfl, by decide +kernel, by decide +kernel⟩
def g_shelf_gaps : En → Option Out := (iRet (u1 (fldD 2 0) (vget 0)))
def m_shelf_gaps : List D → Option D := fnD 1 0 g_shelf_gaps
theorem ok_shelf_gaps {f : Addr} {fd : FuncData} (F : Fun K "gaps" "Shelf.gaps" (inClass (topS 40) 5) f fd) (B : Bt mg) (C : Cf K mg ct)  : FnOk P w K mg base CX0 1 f fd ["self"] (spD K ct m_shelf_gaps) :=
  have S := sc_shelf_gaps; ok_fn (k := 0) F S rfl fun cdv A outer s H E F0 H0 hr => (ss_one (s_ret (d_fldE C.kShelf C.own_gaps (d_var 0 (pv 0)))))
theorem sc_shelf_rise_makers : FnScope ["self"] ["self"] (defScope (inClass (topS 40) 6)) := ⟨rfl, rfl, rfl, by decide +kernel, rfl, by decide +kernel, by decide +kernel⟩
def g_shelf_rise_makers : En → Option Out := (iRet (callD tupO (aCons (asLst (callF srtO (aCons (u1 (fldD 2 1) (vget 0)) aNil))) aNil)))
def m_shelf_rise_makers : List D → Option D := fnD 1 0 g_shelf_rise_makers
theorem ok_shelf_rise_makers {f : Addr} {fd : FuncData} (F : Fun K "rise_makers" "Shelf.rise_makers" (inClass (topS 40) 6) f fd) (B : Bt mg) (C : Cf K mg ct)  : FnOk P w K mg base CX0 1 f fd ["self"] (spD K ct m_shelf_rise_makers) :=
  have S := sc_shelf_rise_makers; ok_fn (k := 0) F S rfl fun cdv A outer s H E F0 H0 hr => (ss_one (s_ret (d_callTy call_tuple_of cl_tup B.tuple_ (by decide +kernel) (a_cons (d_ofF (f_callB cr_srtO cl_srtO B.sorted (by decide +kernel) (a_cons (d_fldE C.kShelf C.own_least (d_var 0 (pv 0))) a_nil))) a_nil))))
theorem sc_is_member : FnScope ["shelf", "number"] ["shelf", "number"] (defScope (topS 41)) := ⟨rfl, rfl, rfl, by decide +kernel, rfl, by decide +kernel, by decide +kernel⟩
def g_is_member : En → Option Out := (iRet (eAnd (b2 geD (vget 1) (cst (.int 0))) (b2 geD (vget 1) (b2 ixD (u1 (fldD 2 1) (vget 0)) (b2 modD (vget 1) (u1 (fldD 0 1) (u1 (fldD 2 2) (vget 0))))))))
def m_is_member : List D → Option D := fnD 2 0 g_is_member
theorem ok_is_member {f : Addr} {fd : FuncData} (F : Fun K "is_member" "is_member" (topS 41) f fd) (B : Bt mg) (C : Cf K mg ct)  : FnOk P w K mg base CX0 1 f fd ["shelf", "number"] (spD K ct m_is_member) :=
  have S := sc_is_member; ok_fn (k := 0) F S rfl fun cdv A outer s H E F0 H0 hr => (ss_one (s_ret (d_and (d_cmp op_ge op_geD (d_var 1 (pv 1)) d_int (nomark _)) (pe_one (d_cmp op_ge op_geD (d_var 1 (pv 1)) (d_ix (d_fldE C.kShelf C.own_least (d_var 0 (pv 0))) (d_mod (d_var 1 (pv 1)) (d_fldE C.kSlope C.own_rises (d_fldE C.kShelf C.own_slope2 (d_var 0 (pv 0)))))) (nomark _))))))
theorem sc_shelf_makers : FnScope ["self", "steps", "member"] ["self"] (defScope (inClass (topS 40) 8)) := ⟨rfl, rfl, rfl, by decide +kernel, rfl, by decide +kernel, by decide +kernel⟩
def g_shelf_makers : En → Option Out := (iSeq (iSet 1 (u1 (fldD 0 2) (u1 (fldD 2 2) (vget 0)))) (iRet (callD tupO (aCons (asLst (lcD (uF itemsOf (asLst (callF srtO (aCons (u1 (fldD 2 1) (vget 0)) aNil)))) [2] (gNm 2) (qNot (tst (callD m_is_member (aCons (vget 0) (aCons (b2 subD (vget 2) (vget 1)) aNil))))) (vget 2))) aNil))))
def m_shelf_makers : List D → Option D := fnD 1 2 g_shelf_makers
theorem ok_shelf_makers {f : Addr} {fd : FuncData} (F : Fun K "makers" "Shelf.makers" (inClass (topS 40) 8) f fd) (B : Bt mg) (C : Cf K mg ct) (c_is_member : Cal P w K mg base ct 1 "is_member" m_is_member) : FnOk P w K mg base CX0 2 f fd ["self"] (spD K ct m_shelf_makers) :=
  have S := sc_shelf_makers; ok_fn (k := 1) F S rfl fun cdv A outer s H E F0 H0 hr => (ss_cons (s_set 1 S.nd (by first | exact Or.inl rfl | exact Or.inr rfl) (d_fldE C.kSlope C.own_steps (d_fldE C.kShelf C.own_slope2 (d_var 0 (pv 0))))) (ss_one (s_ret (d_callTy call_tuple_of cl_tup B.tuple_ (by decide +kernel) (a_cons (d_ofF (f_lc (own := [("member", 2)]) rfl S.nd (p_any (d_ofF (f_callB cr_srtO cl_srtO B.sorted (by decide +kernel) (a_cons (d_fldE C.kShelf C.own_least (d_var 0 (pv 0))) a_nil)))) (blkOk_by (by dsimp only [cxOf, Cx.nox, Cx.wish, envOfC, Cx.blk, compEnvC]; first | decide +kernel | (change blkC _ (relS _ (defScope (inClass (topS 40) 8))) _ _ = true; decide +kernel))) (fun _ _ _ _ _ => (g_name 2 S.nd (by first | exact Or.inl rfl | exact Or.inr rfl))) (fun _ _ _ _ _ => q_one (t_not (t_val (d_call c_is_member (hr.mono (by decide)) (a_cons (d_var 0 (pv 0)) (a_cons (d_sub (d_var 2 (pv 2)) (d_var 1 (pv 1))) a_nil)))))) (fun _ _ _ _ _ => (d_var 2 (pv 2))))) a_nil)))))
theorem sc_shelf_removable : FnScope ["self"] ["self"] (defScope (inClass (topS 40) 13)) := ⟨rfl, rfl, rfl, by decide +kernel, rfl, by decide +kernel, by decide +kernel⟩
def g_shelf_removable : En → Option Out := (iRet (b2 fromD (u1L (onO 2 m_shelf_makers) (vget 0)) (cst (.int 1))))
def m_shelf_removable : List D → Option D := fnD 1 0 g_shelf_removable
theorem ok_shelf_removable {f : Addr} {fd : FuncData} (F : Fun K "removable" "Shelf.removable" (inClass (topS 40) 13) f fd) (B : Bt mg) (C : Cf K mg ct) {g_shelf_makers : Addr} (p_shelf_makers : Prp K (ct 2) "makers" g_shelf_makers ∧ Met P w K mg base ct 2 g_shelf_makers m_shelf_makers) : FnOk P w K mg base CX0 4 f fd ["self"] (spD K ct m_shelf_removable) :=
  have S := sc_shelf_removable; ok_fn (k := 3) F S rfl fun cdv A outer s H E F0 H0 hr => (ss_one (s_ret (d_from (d_propO C.kShelf p_shelf_makers.1 p_shelf_makers.2 (hr.mono (by decide)) (d_var 0 (pv 0))) d_int)))
theorem sc_with_gap : FnScope ["gaps", "number"] ["gaps", "number"] (defScope (topS 42)) := ⟨rfl, rfl, rfl, by decide +kernel, rfl, by decide +kernel, by decide +kernel⟩
def g_with_gap : En → Option Out := (iRet (callD tupO (aCons (asLst (callF srtO (aCons (asLst (sml (aStar (vget 0) (aCons (vget 1) aNil)))) aNil))) aNil)))
def m_with_gap : List D → Option D := fnD 2 0 g_with_gap
theorem ok_with_gap {f : Addr} {fd : FuncData} (F : Fun K "with_gap" "with_gap" (topS 42) f fd) (B : Bt mg) (C : Cf K mg ct)  : FnOk P w K mg base CX0 1 f fd ["gaps", "number"] (spD K ct m_with_gap) :=
  have S := sc_with_gap; ok_fn (k := 0) F S rfl fun cdv A outer s H E F0 H0 hr => (ss_one (s_ret (d_callTy call_tuple_of cl_tup B.tuple_ (by decide +kernel) (a_cons (d_ofF (f_callB cr_srtO cl_srtO B.sorted (by decide +kernel) (a_cons (d_ofF (f_lst (a_star (d_var 0 (pv 0)) (a_cons (d_var 1 (pv 1)) a_nil)))) a_nil))) a_nil))))
theorem sc_require_listed : FnScope ["slope"] ["slope"] (defScope (topS 44)) := ⟨rfl, rfl, rfl, by decide +kernel, rfl, by decide +kernel, by decide +kernel⟩
def g_require_listed : En → Option Out := (iIf (tst (b2 gtD (callD m_count_of_ways (aCons (vget 0) aNil)) (cst (.int 5000)))) iNo iNil)
def m_require_listed : List D → Option D := fnD 1 0 g_require_listed
theorem ok_require_listed {f : Addr} {fd : FuncData} (F : Fun K "require_listed" "require_listed" (topS 44) f fd) (B : Bt mg) (C : Cf K mg ct) (c_count_of_ways : Cal P w K mg base ct 1 "count_of_ways" m_count_of_ways) : FnOk P w K mg base CX0 2 f fd ["slope"] (spD K ct m_require_listed) :=
  have S := sc_require_listed; ok_fn (k := 1) F S rfl fun cdv A outer s H E F0 H0 hr => (ss_one (s_if (t_cmp op_gt op_gtD (d_call c_count_of_ways (hr.mono (by decide)) (a_cons (d_var 0 (pv 0)) a_nil)) (d_globIE B.listed) (nomark _)) ss_no ss_nil))
theorem sc_are_rows : FnScope ["value", "row", "one", "other"] ["value"] (defScope (topS 49)) := ⟨rfl, rfl, rfl, by decide +kernel, rfl, by decide +kernel, by decide +kernel⟩
def g_are_rows : En → Option Out := (iSeq (iIf (qOr (qNot (tst (u1 isiTup (vget 0)))) (tst (b2 gtD (callD lenO (aCons (vget 0) aNil)) (cst (.int 60))))) (iRet (cst (.bl false))) iNil) (iSeq (iIf (qNot (tst (callD allL (aCons (asLst (lcD (uF itemsOf (vget 0)) [1] (gNm 1) (fun _ => some true) (callD m_is_from (aCons (vget 1) (aCons (cst (.int 1)) (aCons (cst (.int 60)) aNil)))))) aNil)))) (iRet (cst (.bl false))) iNil) (iRet (callD allL (aCons (asLst (lcD (callF zipOf (aCons (vget 0) (aCons (b2 fromD (vget 0) (cst (.int 1))) aNil))) [2, 3] (gTp [2, 3]) (fun _ => some true) (b2 geD (vget 2) (vget 3)))) aNil)))))
def m_are_rows : List D → Option D := fnD 1 3 g_are_rows
theorem ok_are_rows {f : Addr} {fd : FuncData} (F : Fun K "are_rows" "are_rows" (topS 49) f fd) (B : Bt mg) (C : Cf K mg ct) (c_is_from : Cal P w K mg base ct 2 "is_from" m_is_from) : FnOk P w K mg base CX0 3 f fd ["value"] (spD K ct m_are_rows) :=
  have S := sc_are_rows; ok_fn (k := 2) F S rfl fun cdv A outer s H E F0 H0 hr => (ss_cons (s_if (PW.pt (w_or (t_not (t_val (d_isiTup B.isinstance B.tuple_ (d_var 0 (pv 0))))) (w_or1 (t_cmp op_gt op_gtD (d_callB (call_len_seq.or call_len_str) cl_len B.len PySem.boot_len (a_cons (d_var 0 (pv 0)) a_nil)) (d_globIE B.row) (nomark _))))) (ss_one (s_ret d_bl)) ss_nil) (ss_cons (s_if (t_not (t_val (d_callB (cr_all rfl) cl_all B.all (by decide +kernel) (a_cons (d_ofF (f_lc (own := [("row", 1)]) rfl S.nd (p_any (d_var 0 (pv 0))) (blkOk_by (by dsimp only [cxOf, Cx.nox, Cx.wish, envOfC, Cx.blk, compEnvC]; first | decide +kernel | (change blkC _ (relS _ (defScope (topS 49))) _ _ = true; decide +kernel))) (fun _ _ _ _ _ => (g_name 1 S.nd (by first | exact Or.inl rfl | exact Or.inr rfl))) (fun _ _ _ _ _ => q_yes) (fun _ _ _ _ _ => (d_call c_is_from (hr.mono (by decide)) (a_cons (d_var 1 (pv 1)) (a_cons d_int (a_cons (d_globIE B.row) a_nil))))))) a_nil)))) (ss_one (s_ret d_bl)) ss_nil) (ss_one (s_ret (d_callB (cr_all rfl) cl_all B.all (by decide +kernel) (a_cons (d_ofF (f_lc (own := [("one", 2), ("other", 3)]) rfl S.nd (p_zip B.zip (a_cons (d_var 0 (pv 0)) (a_cons (d_from (d_var 0 (pv 0)) d_int) a_nil))) (blkOk_by (by dsimp only [cxOf, Cx.nox, Cx.wish, envOfC, Cx.blk, compEnvC]; first | decide +kernel | (change blkC _ (relS _ (defScope (topS 49))) _ _ = true; decide +kernel))) (fun _ _ _ _ _ => (g_tup rfl (gs_cons 2 S.nd (by first | exact Or.inl rfl | exact Or.inr rfl) (gs_cons 3 S.nd (by first | exact Or.inl rfl | exact Or.inr rfl) gs_nil)))) (fun _ _ _ _ _ => q_yes) (fun _ _ _ _ _ => (d_cmp op_ge op_geD (d_var 2 (pv 2)) (d_var 3 (pv 3)) (nomark _))))) a_nil))))))
theorem sc_init_Heap : FnScope ["self", "rows"] ["self", "rows"] (defScope (inClass (topS 50) 1)) := ⟨rfl, rfl, rfl, by decide +kernel, rfl, by decide +kernel, by decide +kernel⟩
def g_init_Heap : En → Option Out := (iSeq (iIf (qNot (tst (callD m_are_rows (aCons (vget 1) aNil)))) iNo iNil) (iSeq (iStore 0 1 3 (vget 1)) (iStore 0 0 3 (asTup (sml (aCons (callD sumO (aCons (vget 1) aNil)) (aCons (vget 1) aNil)))))))
def m_init_Heap : List D → Option (List D) := inD 3 2 0 g_init_Heap
theorem ok_init_Heap {f : Addr} {fd : FuncData} (F : FunI K "__init__" "Heap.__init__" (inClass (topS 50) 1) f fd) (B : Bt mg) (C : Cf K mg ct) (c_are_rows : Cal P w K mg base ct 3 "are_rows" m_are_rows) : FnOk P w K mg base CX0 4 f fd ["self", "rows"] (spI K ct 3 m_init_Heap) :=
  have S := sc_init_Heap; ok_init (k := 3) F S rfl fun cdv A outer s H E F0 H0 me hr => (ss_cons (s_if (t_not (t_val (d_call c_are_rows (hr.mono (by decide)) (a_cons (d_var 1 (pv 1)) a_nil)))) ss_no ss_nil) (ss_cons (s_storeE 0 1 3 C.kHeap C.own_rows (SlX.ps_sl (pv 0) (d_var 1 (pv 1)))) (ss_one (s_storeE 0 0 3 C.kHeap C.own_key3 (SlX.ps_sl (pv 0) (d_tup (a_cons (d_callB (cr_sumO rfl) cl_sumO B.sum (by decide +kernel) (a_cons (d_var 1 (pv 1)) a_nil)) (a_cons (d_var 1 (pv 1)) a_nil))))))))
theorem sc_heap_rows : FnScope ["self"] ["self"] (defScope (inClass (topS 50) 3)) := ⟨rfl, rfl, rfl, by decide +kernel, rfl, by decide +kernel, by decide +kernel⟩
def g_heap_rows : En → Option Out := (iRet (u1 (fldD 3 1) (vget 0)))
def m_heap_rows : List D → Option D := fnD 1 0 g_heap_rows
theorem ok_heap_rows {f : Addr} {fd : FuncData} (F : Fun K "rows" "Heap.rows" (inClass (topS 50) 3) f fd) (B : Bt mg) (C : Cf K mg ct)  : FnOk P w K mg base CX0 1 f fd ["self"] (spD K ct m_heap_rows) :=
  have S := sc_heap_rows; ok_fn (k := 0) F S rfl fun cdv A outer s H E F0 H0 hr => (ss_one (s_ret (d_fldE C.kHeap C.own_rows (d_var 0 (pv 0)))))
theorem sc_heap_size : FnScope ["self"] ["self"] (defScope (inClass (topS 50) 4)) := ⟨rfl, rfl, rfl, by decide +kernel, rfl, by decide +kernel, by decide +kernel⟩
def g_heap_size : En → Option Out := (iRet (b2 ixD (u1 (fldD 3 0) (vget 0)) (cst (.int 0))))
def m_heap_size : List D → Option D := fnD 1 0 g_heap_size
theorem ok_heap_size {f : Addr} {fd : FuncData} (F : Fun K "size" "Heap.size" (inClass (topS 50) 4) f fd) (B : Bt mg) (C : Cf K mg ct)  : FnOk P w K mg base CX0 1 f fd ["self"] (spD K ct m_heap_size) :=
  have S := sc_heap_size; ok_fn (k := 0) F S rfl fun cdv A outer s H E F0 H0 hr => (ss_one (s_ret (d_ix (d_fldE C.kHeap C.own_key3 (d_var 0 (pv 0))) d_int)))
end
end
end DK
/-! E3 -/
set_option Elab.async false
set_option linter.all false
set_option maxRecDepth 100000
set_option maxHeartbeats 4000000
namespace DK
noncomputable section
open PySem PySem.Spec PyProof.Rows L2
open SlX (Slt SlO slH putS Slot1 SIsi)

section
variable {P : Program} {w : World} {K : PySem.W.Frag} {mg : Str → Option Value} {base : Heap} {ct : Nat → Addr}
theorem sc_require_coprime_way : FnScope ["value"] ["value"] (defScope (topS 52)) := ⟨rfl, rfl, rfl, by decide +kernel, rfl, by decide +kernel, by decide +kernel⟩
def g_require_coprime_way : En → Option Out := (iSeq (iDrop (callD m_require_way (aCons (vget 0) aNil))) (iDrop (callD m_require_coprime (aCons (u1 (fldD 1 1) (vget 0)) aNil))))
def m_require_coprime_way : List D → Option D := fnD 1 0 g_require_coprime_way
theorem ok_require_coprime_way {f : Addr} {fd : FuncData} (F : Fun K "require_coprime_way" "require_coprime_way" (topS 52) f fd) (B : Bt mg) (C : Cf K mg ct) (c_require_way : Cal P w K mg base ct 1 "require_way" m_require_way) (c_require_coprime : Cal P w K mg base ct 1 "require_coprime" m_require_coprime) : FnOk P w K mg base CX0 2 f fd ["value"] (spD K ct m_require_coprime_way) :=
  have S := sc_require_coprime_way; ok_fn (k := 1) F S rfl fun cdv A outer s H E F0 H0 hr => (ss_cons (s_drop (d_call c_require_way (hr.mono (by decide)) (a_cons (d_var 0 (pv 0)) a_nil))) (ss_one (s_drop (d_call c_require_coprime (hr.mono (by decide)) (a_cons (d_fldE C.kWay C.own_slope1 (d_var 0 (pv 0))) a_nil)))))
theorem sc_room_rows : FnScope ["way", "levels", "level", "letter"] ["way"] (defScope (topS 53)) := ⟨rfl, rfl, rfl, by decide +kernel, rfl, by decide +kernel, by decide +kernel⟩
def g_room_rows : En → Option Out := (iSeq (iDrop (callD m_require_coprime_way (aCons (vget 0) aNil))) (iSeq (iSet 1 (callD m_levels_of (aCons (u1 (fldD 1 1) (vget 0)) (aCons (u1 (fldD 1 2) (vget 0)) aNil)))) (iRet (callD tupO (aCons (asLst (lcD (callF zipLS (aCons (vget 1) (aCons (u1 (fldD 1 2) (vget 0)) aNil))) [2, 3] (gTp [2, 3]) (tst (b2 eqD (vget 3) (cst (.str [114])))) (b2 divD (vget 2) (u1 (fldD 0 1) (u1 (fldD 1 1) (vget 0)))))) aNil)))))
def m_room_rows : List D → Option D := fnD 1 3 g_room_rows
theorem ok_room_rows {f : Addr} {fd : FuncData} (F : Fun K "room_rows" "room_rows" (topS 53) f fd) (B : Bt mg) (C : Cf K mg ct) (c_require_coprime_way : Cal P w K mg base ct 2 "require_coprime_way" m_require_coprime_way) (c_levels_of : Cal P w K mg base ct 1 "levels_of" m_levels_of) : FnOk P w K mg base CX0 3 f fd ["way"] (spD K ct m_room_rows) :=
  have S := sc_room_rows; ok_fn (k := 2) F S rfl fun cdv A outer s H E F0 H0 hr => (ss_cons (s_drop (d_call c_require_coprime_way (hr.mono (by decide)) (a_cons (d_var 0 (pv 0)) a_nil))) (ss_cons (s_set 1 S.nd (by first | exact Or.inl rfl | exact Or.inr rfl) (d_call c_levels_of (hr.mono (by decide)) (a_cons (d_fldE C.kWay C.own_slope1 (d_var 0 (pv 0))) (a_cons (d_fldE C.kWay C.own_text (d_var 0 (pv 0))) a_nil)))) (ss_one (s_ret (d_callTy call_tuple_of cl_tup B.tuple_ (by decide +kernel) (a_cons (d_ofF (f_lc (own := [("level", 2), ("letter", 3)]) rfl S.nd (p_zipLS B.zip (a_cons (d_var 1 (pv 1)) (a_cons (d_fldE C.kWay C.own_text (d_var 0 (pv 0))) a_nil))) (blkOk_by (by dsimp only [cxOf, Cx.nox, Cx.wish, envOfC, Cx.blk, compEnvC]; first | decide +kernel | (change blkC _ (relS _ (defScope (topS 53))) _ _ = true; decide +kernel))) (fun _ _ _ _ _ => (g_tup rfl (gs_cons 2 S.nd (by first | exact Or.inl rfl | exact Or.inr rfl) (gs_cons 3 S.nd (by first | exact Or.inl rfl | exact Or.inr rfl) gs_nil)))) (fun _ _ _ _ _ => q_one (t_cmp (op_eqD hr.units) op_eqE (d_var 3 (pv 3)) (d_globSE [114] B.rise) (nomark _))) (fun _ _ _ _ _ => (d_div (d_var 2 (pv 2)) (d_fldE C.kSlope C.own_rises (d_fldE C.kWay C.own_slope1 (d_var 0 (pv 0)))))))) a_nil))))))
theorem sc_room : FnScope ["way"] ["way"] (defScope (topS 54)) := ⟨rfl, rfl, rfl, by decide +kernel, rfl, by decide +kernel, by decide +kernel⟩
def g_room : En → Option Out := (iRet (callD sumO (aCons (callD m_room_rows (aCons (vget 0) aNil)) aNil)))
def m_room : List D → Option D := fnD 1 0 g_room
theorem ok_room {f : Addr} {fd : FuncData} (F : Fun K "room" "room" (topS 54) f fd) (B : Bt mg) (C : Cf K mg ct) (c_room_rows : Cal P w K mg base ct 3 "room_rows" m_room_rows) : FnOk P w K mg base CX0 4 f fd ["way"] (spD K ct m_room) :=
  have S := sc_room; ok_fn (k := 3) F S rfl fun cdv A outer s H E F0 H0 hr => (ss_one (s_ret (d_callB (cr_sumO rfl) cl_sumO B.sum (by decide +kernel) (a_cons (d_call c_room_rows (hr.mono (by decide)) (a_cons (d_var 0 (pv 0)) a_nil)) a_nil))))
theorem sc_sky_rows : FnScope ["way", "found", "steps", "letter"] ["way"] (defScope (topS 55)) := ⟨rfl, rfl, rfl, by decide +kernel, rfl, by decide +kernel, by decide +kernel⟩
def g_sky_rows : En → Option Out := (iSeq (iOwn 1 (sml aNil)) (iSeq (iSet 2 (cst (.int 0))) (iSeq (iFor (uF itemsOf (u1 (fldD 1 2) (vget 0))) (gNm 3) (iIf (tst (b2 eqD (vget 3) (cst (.str [115])))) (iAug addI 2 (cst (.int 1))) (iIf (tst (b2 gtD (vget 2) (cst (.int 0)))) (iApp 1 (vget 2)) iNil))) (iFrz 1 (iRet (asLst (uF revD (vget 1))))))))
def m_sky_rows : List D → Option D := fnD 1 3 g_sky_rows
theorem ok_sky_rows {f : Addr} {fd : FuncData} (F : Fun K "sky_rows" "sky_rows" (topS 55) f fd) (B : Bt mg) (C : Cf K mg ct)  : FnOk P w K mg base CX0 1 f fd ["way"] (spD K ct m_sky_rows) :=
  have S := sc_sky_rows; ok_fn (k := 0) F S rfl fun cdv A outer s H E F0 H0 hr => (ss_cons (s_own 1 S.nd (by first | exact Or.inl rfl | exact Or.inr rfl) (f_lst a_nil)) (ss_cons (s_set 2 S.nd (by first | exact Or.inl rfl | exact Or.inr rfl) d_int) (ss_cons (s_for PassesOwn.never rfl (p_any (d_fldE C.kWay C.own_text (d_var 0 (pv 0)))) (g_name 3 S.nd (by first | exact Or.inl rfl | exact Or.inr rfl)) (ss_one (s_if (t_cmp (op_eqD hr.units) op_eqE (d_var 3 (pv 3)) (d_globSE [115] B.step) (nomark _)) (ss_one (s_aug 2 S.nd (by first | exact Or.inl rfl | exact Or.inr rfl) d_int)) (ss_one (s_if (t_cmp op_gt op_gtD (d_var 2 (pv 2)) d_int (nomark _)) (ss_one (s_app 1 (pe_bm PySem.F.plainAttrs_list PySem.F.slot_list_append PySem.F.type_list_append mt_append (pv 1) (pa_cons (d_var 2 (pv 2)) pa_nil)))) ss_nil))))) (ss_frz 1 (ss_one (s_ret (d_ofF (f_rev (d_var 1 (pv 1))))))))))
theorem sc_sky : FnScope ["way"] ["way"] (defScope (topS 56)) := ⟨rfl, rfl, rfl, by decide +kernel, rfl, by decide +kernel, by decide +kernel⟩
def g_sky : En → Option Out := (iSeq (iDrop (callD m_require_coprime_way (aCons (vget 0) aNil))) (iRet (makeD 3 m_init_Heap (aCons (callD tupO (aCons (callD m_sky_rows (aCons (vget 0) aNil)) aNil)) aNil))))
def m_sky : List D → Option D := fnD 1 0 g_sky
theorem ok_sky {f : Addr} {fd : FuncData} (F : Fun K "sky" "sky" (topS 56) f fd) (B : Bt mg) (C : Cf K mg ct) (c_require_coprime_way : Cal P w K mg base ct 2 "require_coprime_way" m_require_coprime_way) (c_sky_rows : Cal P w K mg base ct 1 "sky_rows" m_sky_rows) (c_Heap : Mak P w K mg base ct 4 "Heap" 3 m_init_Heap) : FnOk P w K mg base CX0 6 f fd ["way"] (spD K ct m_sky) :=
  have S := sc_sky; ok_fn (k := 5) F S rfl fun cdv A outer s H E F0 H0 hr => (ss_cons (s_drop (d_call c_require_coprime_way (hr.mono (by decide)) (a_cons (d_var 0 (pv 0)) a_nil))) (ss_one (s_ret (d_make c_Heap (hr.mono (by decide)) (a_cons (d_callTy call_tuple_of cl_tup B.tuple_ (by decide +kernel) (a_cons (d_call c_sky_rows (hr.mono (by decide)) (a_cons (d_var 0 (pv 0)) a_nil)) a_nil)) a_nil)))))
theorem sc_is_paired : FnScope ["slope", "arm", "leg", "rises", "steps"] ["slope", "arm", "leg"] (defScope (topS 57)) := ⟨rfl, rfl, rfl, by decide +kernel, rfl, by decide +kernel, by decide +kernel⟩
def g_is_paired : En → Option Out := (iSeq (iPar [3, 4] (aCons (u1 (fldD 0 1) (vget 0)) (aCons (u1 (fldD 0 2) (vget 0)) aNil))) (iRet (eAnd (b2 ltD (b2 mulD (vget 1) (vget 3)) (b2 mulD (vget 4) (b2 addD (vget 2) (cst (.int 1))))) (b2 ltD (b2 mulD (vget 4) (vget 2)) (b2 mulD (vget 3) (b2 addD (vget 1) (cst (.int 1))))))))
def m_is_paired : List D → Option D := fnD 3 2 g_is_paired
theorem ok_is_paired {f : Addr} {fd : FuncData} (F : Fun K "is_paired" "is_paired" (topS 57) f fd) (B : Bt mg) (C : Cf K mg ct)  : FnOk P w K mg base CX0 1 f fd ["slope", "arm", "leg"] (spD K ct m_is_paired) :=
  have S := sc_is_paired; ok_fn (k := 0) F S rfl fun cdv A outer s H E F0 H0 hr => (ss_cons (s_par2 3 4 (ps_par rfl S.nd rfl rfl (by decide) rfl rfl (m_cons (d_fldE C.kSlope C.own_rises (d_var 0 (pv 0))) (m_cons (d_fldE C.kSlope C.own_steps (d_var 0 (pv 0))) m_nil)) (by rfl))) (ss_one (s_ret (d_and (d_cmp op_lt op_ltD (d_mul (d_var 1 (pv 1)) (d_var 3 (pv 3))) (d_mul (d_var 4 (pv 4)) (d_add (d_var 2 (pv 2)) d_int)) (nomark _)) (pe_one (d_cmp op_lt op_ltD (d_mul (d_var 4 (pv 4)) (d_var 2 (pv 2))) (d_mul (d_var 3 (pv 3)) (d_add (d_var 1 (pv 1)) d_int)) (nomark _)))))))
theorem sc_paired_squares : FnScope ["way", "rows", "columns", "row", "column", "found", "place"] ["way"] (defScope (topS 58)) := ⟨rfl, rfl, rfl, by decide +kernel, rfl, by decide +kernel, by decide +kernel⟩
def g_paired_squares : En → Option Out := (iSeq (iDrop (callD m_require_coprime_way (aCons (vget 0) aNil))) (iSeq (iSet 1 (callD m_sky_rows (aCons (vget 0) aNil))) (iSeq (iOwn 2 (lcD (callF rg1 (aCons (maxDD (vget 1) (cst (.int 0))) aNil)) [4] (gNm 4) (fun _ => some true) (callD lenO (aCons (asLst (lcD (uF itemsOf (vget 1)) [3] (gNm 3) (tst (b2 gtD (vget 3) (vget 4))) (vget 3))) aNil)))) (iFrz 2 (iSeq (iOwn 5 (sml aNil)) (iSeq (iFor (callF enumOf (aCons (vget 1) aNil)) (gTp [6, 3]) (iFor (callF rg1 (aCons (vget 3) aNil)) (gNm 4) (iIf (tst (callD m_is_paired (aCons (u1 (fldD 1 1) (vget 0)) (aCons (b2 subD (b2 subD (vget 3) (vget 4)) (cst (.int 1))) (aCons (b2 subD (b2 subD (b2 ixD (vget 2) (vget 4)) (vget 6)) (cst (.int 1))) aNil))))) (iApp 5 (asTup (sml (aCons (vget 6) (aCons (vget 4) aNil))))) iNil))) (iFrz 5 (iRet (callD tupO (aCons (vget 5) aNil))))))))))
def m_paired_squares : List D → Option D := fnD 1 6 g_paired_squares
theorem ok_paired_squares {f : Addr} {fd : FuncData} (F : Fun K "paired_squares" "paired_squares" (topS 58) f fd) (B : Bt mg) (C : Cf K mg ct) (c_require_coprime_way : Cal P w K mg base ct 2 "require_coprime_way" m_require_coprime_way) (c_sky_rows : Cal P w K mg base ct 1 "sky_rows" m_sky_rows) (c_is_paired : Cal P w K mg base ct 1 "is_paired" m_is_paired) : FnOk P w K mg base CX0 3 f fd ["way"] (spD K ct m_paired_squares) :=
  have S := sc_paired_squares; ok_fn (k := 2) F S rfl fun cdv A outer s H E F0 H0 hr => (ss_cons (s_drop (d_call c_require_coprime_way (hr.mono (by decide)) (a_cons (d_var 0 (pv 0)) a_nil))) (ss_cons (s_set 1 S.nd (by first | exact Or.inl rfl | exact Or.inr rfl) (d_call c_sky_rows (hr.mono (by decide)) (a_cons (d_var 0 (pv 0)) a_nil))) (ss_cons (s_ownLc (own := [("column", 4)]) 2 rfl S.nd rfl rfl (sw_true rfl rfl rfl (by decide +kernel)) (p_range1 B.range (a_cons (d_maxD rfl hr B.max (d_var 1 (pv 1)) (pk_cons d_int pk_nil)) a_nil)) (blkOk_by (by dsimp only [cxOf, Cx.nox, Cx.wish, envOfC, Cx.blk, compEnvC]; first | decide +kernel | (change blkC _ (relS _ (defScope (topS 58))) _ _ = true; decide +kernel))) (fun _ _ _ _ _ => (g_name 4 S.nd (by first | exact Or.inl rfl | exact Or.inr rfl))) (fun _ _ _ _ _ => q_yes) (fun _ _ _ _ _ => (d_callB (call_len_seq.or call_len_str) cl_len B.len PySem.boot_len (a_cons (d_ofF (f_lc (own := [("row", 3)]) rfl S.nd (p_any (d_var 1 (pv 1))) (blkOk_by (by dsimp only [cxOf, Cx.nox, Cx.wish, envOfC, Cx.blk, compEnvC]; first | decide +kernel | (change blkC _ (relS _ (defScope (topS 58))) _ _ = true; decide +kernel))) (fun _ _ _ _ _ => (g_name 3 S.nd (by first | exact Or.inl rfl | exact Or.inr rfl))) (fun _ _ _ _ _ => q_one (t_cmp op_gt op_gtD (d_var 3 (pv 3)) (d_var 4 (pv 4)) (nomark _))) (fun _ _ _ _ _ => (d_var 3 (pv 3))))) a_nil)))) (ss_frz 2 (ss_cons (s_own 5 S.nd (by first | exact Or.inl rfl | exact Or.inr rfl) (f_lst a_nil)) (ss_cons (s_for PassesOwn.never rfl (p_enum B.enumerate (a_cons (d_var 1 (pv 1)) a_nil)) (g_tup rfl (gs_cons 6 S.nd (by first | exact Or.inl rfl | exact Or.inr rfl) (gs_cons 3 S.nd (by first | exact Or.inl rfl | exact Or.inr rfl) gs_nil))) (ss_one (s_for PassesOwn.never rfl (p_range1 B.range (a_cons (d_var 3 (pv 3)) a_nil)) (g_name 4 S.nd (by first | exact Or.inl rfl | exact Or.inr rfl)) (ss_one (s_if (t_val (d_call c_is_paired (hr.mono (by decide)) (a_cons (d_fldE C.kWay C.own_slope1 (d_var 0 (pv 0))) (a_cons (d_sub (d_sub (d_var 3 (pv 3)) (d_var 4 (pv 4))) d_int) (a_cons (d_sub (d_sub (d_ix (d_var 2 (pv 2)) (d_var 4 (pv 4))) (d_var 6 (pv 6))) d_int) a_nil))))) (ss_one (s_app 5 (pe_bm PySem.F.plainAttrs_list PySem.F.slot_list_append PySem.F.type_list_append mt_append (pv 5) (pa_cons (d_tup (a_cons (d_var 6 (pv 6)) (a_cons (d_var 4 (pv 4)) a_nil))) pa_nil)))) ss_nil))))) (ss_frz 5 (ss_one (s_ret (d_callTy call_tuple_of cl_tup B.tuple_ (by decide +kernel) (a_cons (d_var 5 (pv 5)) a_nil)))))))))))
theorem sc_pairs : FnScope ["way"] ["way"] (defScope (topS 59)) := ⟨rfl, rfl, rfl, by decide +kernel, rfl, by decide +kernel, by decide +kernel⟩
def g_pairs : En → Option Out := (iRet (callD lenO (aCons (callD m_paired_squares (aCons (vget 0) aNil)) aNil)))
def m_pairs : List D → Option D := fnD 1 0 g_pairs
theorem ok_pairs {f : Addr} {fd : FuncData} (F : Fun K "pairs" "pairs" (topS 59) f fd) (B : Bt mg) (C : Cf K mg ct) (c_paired_squares : Cal P w K mg base ct 3 "paired_squares" m_paired_squares) : FnOk P w K mg base CX0 4 f fd ["way"] (spD K ct m_pairs) :=
  have S := sc_pairs; ok_fn (k := 3) F S rfl fun cdv A outer s H E F0 H0 hr => (ss_one (s_ret (d_callB (call_len_seq.or call_len_str) cl_len B.len PySem.boot_len (a_cons (d_call c_paired_squares (hr.mono (by decide)) (a_cons (d_var 0 (pv 0)) a_nil)) a_nil))))
theorem sc_free_numbers : FnScope ["shelf", "steps", "gaps", "found", "maker", "gap"] ["shelf"] (defScope (topS 60)) := ⟨rfl, rfl, rfl, by decide +kernel, rfl, by decide +kernel, by decide +kernel⟩
def g_free_numbers : En → Option Out := (iSeq (iIf (qNot (tst (u1 (isoD 2) (vget 0)))) iNo iNil) (iSeq (iPar [1, 2, 3] (aCons (u1 (fldD 0 2) (u1L (onO 2 m_shelf_slope) (vget 0))) (aCons (u1L (onO 2 m_shelf_gaps) (vget 0)) (mOwn (sml aNil) aNil)))) (iSeq (iFor (uF itemsOf (u1L (onO 2 m_shelf_rise_makers) (vget 0))) (gNm 4) (iApp 3 (callD lenO (aCons (asLst (lcD (uF itemsOf (vget 2)) [5] (gNm 5) (tst (chD leD ltD (vget 4) (vget 5) (b2 addD (vget 4) (vget 1)))) (vget 5))) aNil)))) (iFrz 3 (iRet (callD tupO (aCons (vget 3) aNil)))))))
def m_free_numbers : List D → Option D := fnD 1 5 g_free_numbers
theorem ok_free_numbers {f : Addr} {fd : FuncData} (F : Fun K "free_numbers" "free_numbers" (topS 60) f fd) (B : Bt mg) (C : Cf K mg ct) {g_shelf_gaps : Addr} (p_shelf_gaps : Prp K (ct 2) "gaps" g_shelf_gaps ∧ Met P w K mg base ct 1 g_shelf_gaps m_shelf_gaps) {g_shelf_slope : Addr} (p_shelf_slope : Prp K (ct 2) "slope" g_shelf_slope ∧ Met P w K mg base ct 1 g_shelf_slope m_shelf_slope) {g_shelf_rise_makers : Addr} (p_shelf_rise_makers : Prp K (ct 2) "rise_makers" g_shelf_rise_makers ∧ Met P w K mg base ct 1 g_shelf_rise_makers m_shelf_rise_makers) : FnOk P w K mg base CX0 3 f fd ["shelf"] (spD K ct m_free_numbers) :=
  have S := sc_free_numbers; ok_fn (k := 2) F S rfl fun cdv A outer s H E F0 H0 hr => (ss_cons (s_if (t_not (t_val (d_isiO B.isinstance C.kShelf (d_var 0 (pv 0))))) ss_no ss_nil) (ss_cons (s_parT (is := [1, 2, 3]) (by decide) (ps_asg (pe_tup (m_cons (d_fldE C.kSlope C.own_steps (d_propO C.kShelf p_shelf_slope.1 p_shelf_slope.2 (hr.mono (by decide)) (d_var 0 (pv 0)))) (m_cons (d_propO C.kShelf p_shelf_gaps.1 p_shelf_gaps.2 (hr.mono (by decide)) (d_var 0 (pv 0))) (m_own (f_lst a_nil) m_nil)))) (pg_tup rfl (pgs_cons (pg_name (i := 1) S.nd rfl (by first | exact Or.inl rfl | exact Or.inr rfl)) (pgs_cons (pg_name (i := 2) S.nd rfl (by first | exact Or.inl rfl | exact Or.inr rfl)) (pgs_cons (pg_name (i := 3) S.nd rfl (by first | exact Or.inl rfl | exact Or.inr rfl)) pgs_nil)))))) (ss_cons (s_for PassesOwn.never rfl (p_any (d_propO C.kShelf p_shelf_rise_makers.1 p_shelf_rise_makers.2 (hr.mono (by decide)) (d_var 0 (pv 0)))) (g_name 4 S.nd (by first | exact Or.inl rfl | exact Or.inr rfl)) (ss_one (s_app 3 (pe_bm PySem.F.plainAttrs_list PySem.F.slot_list_append PySem.F.type_list_append mt_append (pv 3) (pa_cons (d_callB (call_len_seq.or call_len_str) cl_len B.len PySem.boot_len (a_cons (d_ofF (f_lc (own := [("gap", 5)]) rfl S.nd (p_any (d_var 2 (pv 2))) (blkOk_by (by dsimp only [cxOf, Cx.nox, Cx.wish, envOfC, Cx.blk, compEnvC]; first | decide +kernel | (change blkC _ (relS _ (defScope (topS 60))) _ _ = true; decide +kernel))) (fun _ _ _ _ _ => (g_name 5 S.nd (by first | exact Or.inl rfl | exact Or.inr rfl))) (fun _ _ _ _ _ => q_one (t_chain op_le op_lt op_leD op_ltD (d_var 4 (pv 4)) (d_var 5 (pv 5)) (d_add (d_var 4 (pv 4)) (d_var 1 (pv 1))))) (fun _ _ _ _ _ => (d_var 5 (pv 5))))) a_nil)) pa_nil))))) (ss_frz 3 (ss_one (s_ret (d_callTy call_tuple_of cl_tup B.tuple_ (by decide +kernel) (a_cons (d_var 3 (pv 3)) a_nil))))))))
theorem sc_counts_of : FnScope ["way"] ["way"] (defScope (topS 61)) := ⟨rfl, rfl, rfl, by decide +kernel, rfl, by decide +kernel, by decide +kernel⟩
def g_counts_of : En → Option Out := (iRet (asTup (sml (aCons (callD m_room (aCons (vget 0) aNil)) (aCons (callD m_pairs (aCons (vget 0) aNil)) aNil)))))
def m_counts_of : List D → Option D := fnD 1 0 g_counts_of
theorem ok_counts_of {f : Addr} {fd : FuncData} (F : Fun K "counts_of" "counts_of" (topS 61) f fd) (B : Bt mg) (C : Cf K mg ct) (c_pairs : Cal P w K mg base ct 4 "pairs" m_pairs) (c_room : Cal P w K mg base ct 4 "room" m_room) : FnOk P w K mg base CX0 5 f fd ["way"] (spD K ct m_counts_of) :=
  have S := sc_counts_of; ok_fn (k := 4) F S rfl fun cdv A outer s H E F0 H0 hr => (ss_one (s_ret (d_tup (a_cons (d_call c_room (hr.mono (by decide)) (a_cons (d_var 0 (pv 0)) a_nil)) (a_cons (d_call c_pairs (hr.mono (by decide)) (a_cons (d_var 0 (pv 0)) a_nil)) a_nil)))))
end
end
end DK
/-! E4 -/
set_option Elab.async false
set_option linter.all false
set_option maxRecDepth 100000
set_option maxHeartbeats 4000000
namespace DK
noncomputable section
open PySem PySem.Spec PyProof.Rows L2
open SlX (Slt SlO slH putS Slot1 SIsi)

section
variable {P : Program} {w : World} {K : PySem.W.Frag} {mg : Str → Option Value} {base : Heap} {ct : Nat → Addr}
theorem sc__law_ways_listed : FnScope ["_law_rises", "_law_steps", "_law_found", "_law_turn", "_law_more", "_law_text", "_law_up", "_law_over", "_law_row"] ["_law_rises", "_law_steps"] (defScope (topS 66)) := ⟨rfl, rfl, rfl, by decide +kernel, rfl, by decide +kernel, by decide +kernel⟩
def g__law_ways_listed : En → Option Out := (iSeq (iSet 2 (asLst (sml (aCons (asTup (sml (aCons (cst (.str [])) (aCons (cst (.int 0)) (aCons (cst (.int 0)) aNil))))) aNil)))) (iSeq (iFor (callF rg1 (aCons (b2 addD (vget 0) (vget 1)) aNil)) (gNm 3) (iSeq (iOwn 4 (sml aNil)) (iSeq (iFor (uF itemsOf (vget 2)) (gTp [5, 6, 7]) (iSeq (iIf (tst (b2 ltD (vget 6) (vget 0))) (iApp 4 (asTup (sml (aCons (b2 addD (vget 5) (cst (.str [114]))) (aCons (b2 addD (vget 6) (cst (.int 1))) (aCons (vget 7) aNil)))))) iNil) (iIf (qAnd (tst (b2 ltD (vget 7) (vget 1))) (tst (b2 geD (b2 mulD (vget 1) (vget 6)) (b2 mulD (vget 0) (b2 addD (vget 7) (cst (.int 1))))))) (iApp 4 (asTup (sml (aCons (b2 addD (vget 5) (cst (.str [115]))) (aCons (vget 6) (aCons (b2 addD (vget 7) (cst (.int 1))) aNil)))))) iNil))) (iFrz 4 (iSet 2 (asLst (callF lstO (aCons (vget 4) aNil)))))))) (iRet (asLst (lcD (uF itemsOf (vget 2)) [8] (gNm 8) (fun _ => some true) (b2 ixD (vget 8) (cst (.int 0))))))))
def m__law_ways_listed : List D → Option D := fnD 2 7 g__law_ways_listed
theorem ok__law_ways_listed {f : Addr} {fd : FuncData} (F : Fun K "_law_ways_listed" "_law_ways_listed" (topS 66) f fd) (B : Bt mg) (C : Cf K mg ct)  : FnOk P w K mg base CX0 1 f fd ["_law_rises", "_law_steps"] (spD K ct m__law_ways_listed) :=
  have S := sc__law_ways_listed; ok_fn (k := 0) F S rfl fun cdv A outer s H E F0 H0 hr => (ss_cons (s_set 2 S.nd (by first | exact Or.inl rfl | exact Or.inr rfl) (d_ofF (f_lst (a_cons (d_tup (a_cons (d_str [] (by decide +kernel)) (a_cons d_int (a_cons d_int a_nil)))) a_nil)))) (ss_cons (s_for PassesOwn.never rfl (p_range1 B.range (a_cons (d_add (d_var 0 (pv 0)) (d_var 1 (pv 1))) a_nil)) (g_name 3 S.nd (by first | exact Or.inl rfl | exact Or.inr rfl)) (ss_cons (s_own 4 S.nd (by first | exact Or.inl rfl | exact Or.inr rfl) (f_lst a_nil)) (ss_cons (s_for PassesOwn.never rfl (p_any (d_var 2 (pv 2))) (g_tup rfl (gs_cons 5 S.nd (by first | exact Or.inl rfl | exact Or.inr rfl) (gs_cons 6 S.nd (by first | exact Or.inl rfl | exact Or.inr rfl) (gs_cons 7 S.nd (by first | exact Or.inl rfl | exact Or.inr rfl) gs_nil)))) (ss_cons (s_if (t_cmp op_lt op_ltD (d_var 6 (pv 6)) (d_var 0 (pv 0)) (nomark _)) (ss_one (s_app 4 (pe_bm PySem.F.plainAttrs_list PySem.F.slot_list_append PySem.F.type_list_append mt_append (pv 4) (pa_cons (d_tup (a_cons (d_add (d_var 5 (pv 5)) (d_str [114] (by decide +kernel))) (a_cons (d_add (d_var 6 (pv 6)) d_int) (a_cons (d_var 7 (pv 7)) a_nil)))) pa_nil)))) ss_nil) (ss_one (s_if (PW.pt (w_and (t_cmp op_lt op_ltD (d_var 7 (pv 7)) (d_var 1 (pv 1)) (nomark _)) (w_and1 (t_cmp op_ge op_geD (d_mul (d_var 1 (pv 1)) (d_var 6 (pv 6))) (d_mul (d_var 0 (pv 0)) (d_add (d_var 7 (pv 7)) d_int)) (nomark _))))) (ss_one (s_app 4 (pe_bm PySem.F.plainAttrs_list PySem.F.slot_list_append PySem.F.type_list_append mt_append (pv 4) (pa_cons (d_tup (a_cons (d_add (d_var 5 (pv 5)) (d_str [115] (by decide +kernel))) (a_cons (d_var 6 (pv 6)) (a_cons (d_add (d_var 7 (pv 7)) d_int) a_nil)))) pa_nil)))) ss_nil)))) (ss_frz 4 (ss_one (s_set 2 S.nd (by first | exact Or.inl rfl | exact Or.inr rfl) (d_ofF (f_callTy call_list_of cl_lst B.list (by decide +kernel) (a_cons (d_var 4 (pv 4)) a_nil))))))))) (ss_one (s_ret (d_ofF (f_lc (own := [("_law_row", 8)]) rfl S.nd (p_any (d_var 2 (pv 2))) (blkOk_by (by dsimp only [cxOf, Cx.nox, Cx.wish, envOfC, Cx.blk, compEnvC]; first | decide +kernel | (change blkC _ (relS _ (defScope (topS 66))) _ _ = true; decide +kernel))) (fun _ _ _ _ _ => (g_name 8 S.nd (by first | exact Or.inl rfl | exact Or.inr rfl))) (fun _ _ _ _ _ => q_yes) (fun _ _ _ _ _ => (d_ix (d_var 8 (pv 8)) d_int))))))))
theorem sc__law_squares_between : FnScope ["_law_rises", "_law_steps", "_law_text", "_law_found", "_law_over", "_law_up", "_law_sign", "_law_column"] ["_law_rises", "_law_steps", "_law_text"] (defScope (topS 67)) := ⟨rfl, rfl, rfl, by decide +kernel, rfl, by decide +kernel, by decide +kernel⟩
def g__law_squares_between : En → Option Out := (iSeq (iPar [3, 4, 5] (mOwn (sml aNil) (aCons (cst (.int 0)) (aCons (cst (.int 0)) aNil)))) (iSeq (iFor (uF itemsOf (vget 2)) (gNm 6) (iIf (tst (b2 eqD (vget 6) (cst (.str [115])))) (iSet 4 (b2 addD (vget 4) (cst (.int 1)))) (iSeq (iApp 3 (callD lenO (aCons (asLst (lcD (callF rg2 (aCons (vget 4) (aCons (vget 1) aNil))) [7] (gNm 7) (tst (b2 leD (b2 mulD (vget 0) (b2 addD (vget 7) (cst (.int 1)))) (b2 mulD (vget 1) (vget 5)))) (vget 7))) aNil))) (iSet 5 (b2 addD (vget 5) (cst (.int 1))))))) (iFrz 3 (iRet (vget 3)))))
def m__law_squares_between : List D → Option D := fnD 3 5 g__law_squares_between
theorem ok__law_squares_between {f : Addr} {fd : FuncData} (F : Fun K "_law_squares_between" "_law_squares_between" (topS 67) f fd) (B : Bt mg) (C : Cf K mg ct)  : FnOk P w K mg base CX0 1 f fd ["_law_rises", "_law_steps", "_law_text"] (spD K ct m__law_squares_between) :=
  have S := sc__law_squares_between; ok_fn (k := 0) F S rfl fun cdv A outer s H E F0 H0 hr => (ss_cons (s_parT (is := [3, 4, 5]) (by decide) (ps_asg (pe_tup (m_own (f_lst a_nil) (m_cons d_int (m_cons d_int m_nil)))) (pg_tup rfl (pgs_cons (pg_name (i := 3) S.nd rfl (by first | exact Or.inl rfl | exact Or.inr rfl)) (pgs_cons (pg_name (i := 4) S.nd rfl (by first | exact Or.inl rfl | exact Or.inr rfl)) (pgs_cons (pg_name (i := 5) S.nd rfl (by first | exact Or.inl rfl | exact Or.inr rfl)) pgs_nil)))))) (ss_cons (s_for PassesOwn.never rfl (p_any (d_var 2 (pv 2))) (g_name 6 S.nd (by first | exact Or.inl rfl | exact Or.inr rfl)) (ss_one (s_if (t_cmp (op_eqD hr.units) op_eqE (d_var 6 (pv 6)) (d_str [115] (by decide +kernel)) (nomark _)) (ss_one (s_set 4 S.nd (by first | exact Or.inl rfl | exact Or.inr rfl) (d_add (d_var 4 (pv 4)) d_int))) (ss_cons (s_app 3 (pe_bm PySem.F.plainAttrs_list PySem.F.slot_list_append PySem.F.type_list_append mt_append (pv 3) (pa_cons (d_callB (call_len_seq.or call_len_str) cl_len B.len PySem.boot_len (a_cons (d_ofF (f_lc (own := [("_law_column", 7)]) rfl S.nd (p_range2 B.range (a_cons (d_var 4 (pv 4)) (a_cons (d_var 1 (pv 1)) a_nil))) (blkOk_by (by dsimp only [cxOf, Cx.nox, Cx.wish, envOfC, Cx.blk, compEnvC]; first | decide +kernel | (change blkC _ (relS _ (defScope (topS 67))) _ _ = true; decide +kernel))) (fun _ _ _ _ _ => (g_name 7 S.nd (by first | exact Or.inl rfl | exact Or.inr rfl))) (fun _ _ _ _ _ => q_one (t_cmp op_le op_leD (d_mul (d_var 0 (pv 0)) (d_add (d_var 7 (pv 7)) d_int)) (d_mul (d_var 1 (pv 1)) (d_var 5 (pv 5))) (nomark _))) (fun _ _ _ _ _ => (d_var 7 (pv 7))))) a_nil)) pa_nil))) (ss_one (s_set 5 S.nd (by first | exact Or.inl rfl | exact Or.inr rfl) (d_add (d_var 5 (pv 5)) d_int))))))) (ss_frz 3 (ss_one (s_ret (d_var 3 (pv 3)))))))
theorem sc__law_sky_rows : FnScope ["_law_text", "_law_at"] ["_law_text"] (defScope (topS 68)) := ⟨rfl, rfl, rfl, by decide +kernel, rfl, by decide +kernel, by decide +kernel⟩
def g__law_sky_rows : En → Option Out := (iRet (asLst (lcD (callF rg3 (aCons (b2 subD (callD lenO (aCons (vget 0) aNil)) (cst (.int 1))) (aCons (u1 negD (cst (.int 1))) (aCons (u1 negD (cst (.int 1))) aNil)))) [1] (gNm 1) (qAnd (tst (b2 eqD (b2 ixD (vget 0) (vget 1)) (cst (.str [114])))) (tst (b2 gtD (b2 cntD (b2 toD (vget 0) (vget 1)) (cst (.str [115]))) (cst (.int 0))))) (b2 cntD (b2 toD (vget 0) (vget 1)) (cst (.str [115]))))))
def m__law_sky_rows : List D → Option D := fnD 1 1 g__law_sky_rows
theorem ok__law_sky_rows {f : Addr} {fd : FuncData} (F : Fun K "_law_sky_rows" "_law_sky_rows" (topS 68) f fd) (B : Bt mg) (C : Cf K mg ct)  : FnOk P w K mg base CX0 1 f fd ["_law_text"] (spD K ct m__law_sky_rows) :=
  have S := sc__law_sky_rows; ok_fn (k := 0) F S rfl fun cdv A outer s H E F0 H0 hr => (ss_one (s_ret (d_ofF (f_lc (own := [("_law_at", 1)]) rfl S.nd (p_range3 B.range (a_cons (d_sub (d_callB (call_len_seq.or call_len_str) cl_len B.len PySem.boot_len (a_cons (d_var 0 (pv 0)) a_nil)) d_int) (a_cons (d_neg d_int) (a_cons (d_neg d_int) a_nil)))) (blkOk_by (by dsimp only [cxOf, Cx.nox, Cx.wish, envOfC, Cx.blk, compEnvC]; first | decide +kernel | (change blkC _ (relS _ (defScope (topS 68))) _ _ = true; decide +kernel))) (fun _ _ _ _ _ => (g_name 1 S.nd (by first | exact Or.inl rfl | exact Or.inr rfl))) (fun _ _ _ _ _ => q_one (PW.pt (w_and (t_cmp (op_eqD hr.units) op_eqE (d_ix (d_var 0 (pv 0)) (d_var 1 (pv 1))) (d_str [114] (by decide +kernel)) (nomark _)) (w_and1 (t_cmp op_gt op_gtD (d_count (pe_bm PySem.F.plainAttrs_str PySem.F.slot_str_count PySem.F.type_str_count mt_count (d_to (d_var 0 (pv 0)) (d_var 1 (pv 1))) (pa_cons (d_str [115] (by decide +kernel)) pa_nil))) d_int (nomark _)))))) (fun _ _ _ _ _ => (d_count (pe_bm PySem.F.plainAttrs_str PySem.F.slot_str_count PySem.F.type_str_count mt_count (d_to (d_var 0 (pv 0)) (d_var 1 (pv 1))) (pa_cons (d_str [115] (by decide +kernel)) pa_nil))))))))
theorem sc__law_column_lengths : FnScope ["_law_rows", "_law_row", "_law_column"] ["_law_rows"] (defScope (topS 69)) := ⟨rfl, rfl, rfl, by decide +kernel, rfl, by decide +kernel, by decide +kernel⟩
def g__law_column_lengths : En → Option Out := (iRet (asLst (lcD (callF rg1 (aCons (callD maxO (aCons (asLst (catF (asLst (sml (aCons (cst (.int 0)) aNil))) (asLst (callF lstO (aCons (vget 0) aNil))))) aNil)) aNil)) [2] (gNm 2) (fun _ => some true) (callD lenO (aCons (asLst (lcD (uF itemsOf (vget 0)) [1] (gNm 1) (tst (b2 gtD (vget 1) (vget 2))) (vget 1))) aNil)))))
def m__law_column_lengths : List D → Option D := fnD 1 2 g__law_column_lengths
theorem ok__law_column_lengths {f : Addr} {fd : FuncData} (F : Fun K "_law_column_lengths" "_law_column_lengths" (topS 69) f fd) (B : Bt mg) (C : Cf K mg ct)  : FnOk P w K mg base CX0 1 f fd ["_law_rows"] (spD K ct m__law_column_lengths) :=
  have S := sc__law_column_lengths; ok_fn (k := 0) F S rfl fun cdv A outer s H E F0 H0 hr => (ss_one (s_ret (d_ofF (f_lc (own := [("_law_column", 2)]) rfl S.nd (p_range1 B.range (a_cons (d_callB (cr_maxO rfl hr) cl_maxO B.max (by decide +kernel) (a_cons (d_ofF (f_cat (d_ofF (f_lst (a_cons d_int a_nil))) (d_ofF (f_callTy call_list_of cl_lst B.list (by decide +kernel) (a_cons (d_var 0 (pv 0)) a_nil))))) a_nil)) a_nil)) (blkOk_by (by dsimp only [cxOf, Cx.nox, Cx.wish, envOfC, Cx.blk, compEnvC]; first | decide +kernel | (change blkC _ (relS _ (defScope (topS 69))) _ _ = true; decide +kernel))) (fun _ _ _ _ _ => (g_name 2 S.nd (by first | exact Or.inl rfl | exact Or.inr rfl))) (fun _ _ _ _ _ => q_yes) (fun _ _ _ _ _ => (d_callB (call_len_seq.or call_len_str) cl_len B.len PySem.boot_len (a_cons (d_ofF (f_lc (own := [("_law_row", 1)]) rfl S.nd (p_any (d_var 0 (pv 0))) (blkOk_by (by dsimp only [cxOf, Cx.nox, Cx.wish, envOfC, Cx.blk, compEnvC]; first | decide +kernel | (change blkC _ (relS _ (defScope (topS 69))) _ _ = true; decide +kernel))) (fun _ _ _ _ _ => (g_name 1 S.nd (by first | exact Or.inl rfl | exact Or.inr rfl))) (fun _ _ _ _ _ => q_one (t_cmp op_gt op_gtD (d_var 1 (pv 1)) (d_var 2 (pv 2)) (nomark _))) (fun _ _ _ _ _ => (d_var 1 (pv 1))))) a_nil)))))))
theorem sc__law_arm_and_leg : FnScope ["_law_rises", "_law_steps", "_law_rows", "_law_columns", "_law_found", "_law_at", "_law_row", "_law_column", "_law_arm", "_law_leg"] ["_law_rises", "_law_steps", "_law_rows"] (defScope (topS 70)) := ⟨rfl, rfl, rfl, by decide +kernel, rfl, by decide +kernel, by decide +kernel⟩
def g__law_arm_and_leg : En → Option Out := (iSeq (iPar [3, 4] (aCons (callD m__law_column_lengths (aCons (vget 2) aNil)) (mOwn (sml aNil) aNil))) (iSeq (iFor (callF enumOf (aCons (vget 2) aNil)) (gTp [5, 6]) (iFor (callF rg1 (aCons (vget 6) aNil)) (gNm 7) (iSeq (iPar [8, 9] (aCons (b2 subD (b2 subD (vget 6) (vget 7)) (cst (.int 1))) (aCons (b2 subD (b2 subD (b2 ixD (vget 3) (vget 7)) (vget 5)) (cst (.int 1))) aNil))) (iIf (qAnd (tst (b2 ltD (b2 mulD (vget 8) (vget 0)) (b2 mulD (vget 1) (b2 addD (vget 9) (cst (.int 1)))))) (tst (b2 ltD (b2 mulD (vget 1) (vget 9)) (b2 mulD (vget 0) (b2 addD (vget 8) (cst (.int 1))))))) (iApp 4 (asTup (sml (aCons (vget 5) (aCons (vget 7) aNil))))) iNil)))) (iFrz 4 (iRet (vget 4)))))
def m__law_arm_and_leg : List D → Option D := fnD 3 7 g__law_arm_and_leg
theorem ok__law_arm_and_leg {f : Addr} {fd : FuncData} (F : Fun K "_law_arm_and_leg" "_law_arm_and_leg" (topS 70) f fd) (B : Bt mg) (C : Cf K mg ct) (c__law_column_lengths : Cal P w K mg base ct 1 "_law_column_lengths" m__law_column_lengths) : FnOk P w K mg base CX0 2 f fd ["_law_rises", "_law_steps", "_law_rows"] (spD K ct m__law_arm_and_leg) :=
  have S := sc__law_arm_and_leg; ok_fn (k := 1) F S rfl fun cdv A outer s H E F0 H0 hr => (ss_cons (s_par2 3 4 (ps_par rfl S.nd rfl rfl (by decide) rfl rfl (m_cons (d_call c__law_column_lengths (hr.mono (by decide)) (a_cons (d_var 2 (pv 2)) a_nil)) (m_own (f_lst a_nil) m_nil)) (by rfl))) (ss_cons (s_for PassesOwn.never rfl (p_enum B.enumerate (a_cons (d_var 2 (pv 2)) a_nil)) (g_tup rfl (gs_cons 5 S.nd (by first | exact Or.inl rfl | exact Or.inr rfl) (gs_cons 6 S.nd (by first | exact Or.inl rfl | exact Or.inr rfl) gs_nil))) (ss_one (s_for PassesOwn.never rfl (p_range1 B.range (a_cons (d_var 6 (pv 6)) a_nil)) (g_name 7 S.nd (by first | exact Or.inl rfl | exact Or.inr rfl)) (ss_cons (s_par2 8 9 (ps_par rfl S.nd rfl rfl (by decide) rfl rfl (m_cons (d_sub (d_sub (d_var 6 (pv 6)) (d_var 7 (pv 7))) d_int) (m_cons (d_sub (d_sub (d_ix (d_var 3 (pv 3)) (d_var 7 (pv 7))) (d_var 5 (pv 5))) d_int) m_nil)) (by rfl))) (ss_one (s_if (PW.pt (w_and (t_cmp op_lt op_ltD (d_mul (d_var 8 (pv 8)) (d_var 0 (pv 0))) (d_mul (d_var 1 (pv 1)) (d_add (d_var 9 (pv 9)) d_int)) (nomark _)) (w_and1 (t_cmp op_lt op_ltD (d_mul (d_var 1 (pv 1)) (d_var 9 (pv 9))) (d_mul (d_var 0 (pv 0)) (d_add (d_var 8 (pv 8)) d_int)) (nomark _))))) (ss_one (s_app 4 (pe_bm PySem.F.plainAttrs_list PySem.F.slot_list_append PySem.F.type_list_append mt_append (pv 4) (pa_cons (d_tup (a_cons (d_var 5 (pv 5)) (a_cons (d_var 7 (pv 7)) a_nil))) pa_nil)))) ss_nil)))))) (ss_frz 4 (ss_one (s_ret (d_var 4 (pv 4)))))))
theorem sc__law_gaps_near : FnScope ["_law_steps", "_law_makers", "_law_gaps", "_law_gap", "_law_maker"] ["_law_steps", "_law_makers", "_law_gaps"] (defScope (topS 71)) := ⟨rfl, rfl, rfl, by decide +kernel, rfl, by decide +kernel, by decide +kernel⟩
def g__law_gaps_near : En → Option Out := (iRet (asLst (lcD (uF itemsOf (vget 1)) [4] (gNm 4) (fun _ => some true) (callD lenO (aCons (asLst (lcD (uF itemsOf (vget 2)) [3] (gNm 3) (tst (chD leD ltD (vget 4) (vget 3) (b2 addD (vget 4) (vget 0)))) (vget 3))) aNil)))))
def m__law_gaps_near : List D → Option D := fnD 3 2 g__law_gaps_near
theorem ok__law_gaps_near {f : Addr} {fd : FuncData} (F : Fun K "_law_gaps_near" "_law_gaps_near" (topS 71) f fd) (B : Bt mg) (C : Cf K mg ct)  : FnOk P w K mg base CX0 1 f fd ["_law_steps", "_law_makers", "_law_gaps"] (spD K ct m__law_gaps_near) :=
  have S := sc__law_gaps_near; ok_fn (k := 0) F S rfl fun cdv A outer s H E F0 H0 hr => (ss_one (s_ret (d_ofF (f_lc (own := [("_law_maker", 4)]) rfl S.nd (p_any (d_var 1 (pv 1))) (blkOk_by (by dsimp only [cxOf, Cx.nox, Cx.wish, envOfC, Cx.blk, compEnvC]; first | decide +kernel | (change blkC _ (relS _ (defScope (topS 71))) _ _ = true; decide +kernel))) (fun _ _ _ _ _ => (g_name 4 S.nd (by first | exact Or.inl rfl | exact Or.inr rfl))) (fun _ _ _ _ _ => q_yes) (fun _ _ _ _ _ => (d_callB (call_len_seq.or call_len_str) cl_len B.len PySem.boot_len (a_cons (d_ofF (f_lc (own := [("_law_gap", 3)]) rfl S.nd (p_any (d_var 2 (pv 2))) (blkOk_by (by dsimp only [cxOf, Cx.nox, Cx.wish, envOfC, Cx.blk, compEnvC]; first | decide +kernel | (change blkC _ (relS _ (defScope (topS 71))) _ _ = true; decide +kernel))) (fun _ _ _ _ _ => (g_name 3 S.nd (by first | exact Or.inl rfl | exact Or.inr rfl))) (fun _ _ _ _ _ => q_one (t_chain op_le op_lt op_leD op_ltD (d_var 4 (pv 4)) (d_var 3 (pv 3)) (d_add (d_var 4 (pv 4)) (d_var 0 (pv 0))))) (fun _ _ _ _ _ => (d_var 3 (pv 3))))) a_nil)))))))
theorem sc__law_rest_makers : FnScope ["_law_rises", "_law_gaps", "_law_found", "_law_rest", "_law_maker"] ["_law_rises", "_law_gaps"] (defScope (topS 72)) := ⟨rfl, rfl, rfl, by decide +kernel, rfl, by decide +kernel, by decide +kernel⟩
def g__law_rest_makers : En → Option Out := (iSeq (iOwn 2 (sml aNil)) (iSeq (iFor (callF rg1 (aCons (vget 0) aNil)) (gNm 3) (iSeq (iSet 4 (vget 3)) (iSeq (whD (tst (b2 inT (vget 4) (vget 1))) (iSet 4 (b2 addD (vget 4) (vget 0))) 30) (iApp 2 (vget 4))))) (iFrz 2 (iRet (asLst (callF srtO (aCons (vget 2) aNil)))))))
def m__law_rest_makers : List D → Option D := fnD 2 3 g__law_rest_makers
theorem ok__law_rest_makers {f : Addr} {fd : FuncData} (F : Fun K "_law_rest_makers" "_law_rest_makers" (topS 72) f fd) (B : Bt mg) (C : Cf K mg ct)  : FnOk P w K mg base CX0 1 f fd ["_law_rises", "_law_gaps"] (spD K ct m__law_rest_makers) :=
  have S := sc__law_rest_makers; ok_fn (k := 0) F S rfl fun cdv A outer s H E F0 H0 hr => (ss_cons (s_own 2 S.nd (by first | exact Or.inl rfl | exact Or.inr rfl) (f_lst a_nil)) (ss_cons (s_for PassesOwn.never rfl (p_range1 B.range (a_cons (d_var 0 (pv 0)) a_nil)) (g_name 3 S.nd (by first | exact Or.inl rfl | exact Or.inr rfl)) (ss_cons (s_set 4 S.nd (by first | exact Or.inl rfl | exact Or.inr rfl) (d_var 3 (pv 3))) (ss_cons (s_while 30 PassesOwn.never (t_in (d_var 4 (pv 4)) (d_var 1 (pv 1)) (by rfl)) (ss_one (s_set 4 S.nd (by first | exact Or.inl rfl | exact Or.inr rfl) (d_add (d_var 4 (pv 4)) (d_var 0 (pv 0)))))) (ss_one (s_app 2 (pe_bm PySem.F.plainAttrs_list PySem.F.slot_list_append PySem.F.type_list_append mt_append (pv 2) (pa_cons (d_var 4 (pv 4)) pa_nil))))))) (ss_frz 2 (ss_one (s_ret (d_ofF (f_callB cr_srtO cl_srtO B.sorted (by decide +kernel) (a_cons (d_var 2 (pv 2)) a_nil))))))))
end
end
end DK
/-! DKI -/
set_option Elab.async false
set_option linter.all false
set_option maxRecDepth 100000
set_option maxHeartbeats 1000000
/-! for k, v in d.items(), d a dict whose keys are tuples of ints, locked meanwhile. -/
namespace DK
noncomputable section
open PySem PySem.Spec PyProof.Rows L2
open SlX (Slt SlO slH putS Slot1 SIsi)

def ItT (d : Addr) (o : Obj) (kvs : List (List Key × V)) : It :=
  ⟨fun i H => H d = some (.frz o (.dT kvs)) ∧ i < kvs.length,
   fun i H x H' => ∃ T q k v, kvs[i]? = some (k, v) ∧ H q = some (.tup (k.map kV)) ∧ x = .ref T ∧ H T = none ∧ H' = upd H T (.tup [.ref q, v]),
   fun i H => H d = some (.frz o (.dT kvs)) ∧ kvs.length ≤ i⟩
theorem frzTV {X : Cx} {pins : List (Addr × Obj)} {σ : L2.St} {H : Hp} {s : Shared} {d : Addr} {o : Obj} {kvs : List (List Key × V)} (I : Inv X pins σ H s) (h : H d = some (.frz o (.dT kvs))) :
    (d == sysModules) = false ∧ s.heap.get? d = some o ∧ o.ExactDict ∧ ∃ (es : Array DictEntry) (ep : Nat), o.data = .dict es ep ∧ es.size = kvs.length ∧
      ∀ (i : Nat) (k : List Key) (v : V), kvs[i]? = some (k, v) → ∃ (en : DictEntry) (q : Addr), es[i]? = some en ∧ en.key = .ref q ∧ H q = some (.tup (k.map kV)) ∧ RelV v en.val := by
  obtain ⟨hd, z, hs, xs, pr, o', es, ep, ho, hx, hdt, he, _⟩ := I.hok d _ h
  have eo : o = o' := Option.some.inj (hd.symm.trans ho)
  subst eo
  refine ⟨hs, hd, hx, es, ep, hdt, ?_, fun i k v e => ?_⟩
  · have l1 : es.size = xs.length := size_of_entries he
    have l2 : kvs.length = xs.length := Paired.length pr
    rw [l1, l2]
  · obtain ⟨b, hb, e1, e2, e3⟩ := paired_get pr e
    have q := entry_at he i
    rw [hb] at q
    exact ⟨_, b.2.1, q, rfl, e2, e3⟩
theorem turn_itemsT {P : Program} {w : World} {K : PySem.W.Frag} {elts : List Expr} {kk : Nat} {tpos : Pos} {d it : Addr} {o : Obj} {es : Array DictEntry} {ep : Nat} {kvs : List (List Key × V)} (hod : o.data = .dict es ep) :
    Turn P w K (.Tuple elts kk tpos) (ItT d o kvs) [it] it (fun i h => ∃ ok ov, IsItemIter h it d i kvs.length ep ok ov) where
  mem := by simp
  obj := fun i h ⟨ok, ov, e⟩ b hb => by
    obtain rfl := List.mem_singleton.mp hb
    exact ⟨_, e, fun v z => nomatch z⟩
  keep := fun i h h' ⟨ok, ov, e⟩ k => ⟨ok, ov, k it (by simp) _ e⟩
  item := by
    intro X hP hw hK hc i pins s σ H E I hf st hg
    subst hP hw hK
    obtain ⟨hd, hi⟩ := hg
    obtain ⟨hs, hgd, hx, es', ep', hdt, hsz, ent⟩ := frzTV I hd
    obtain ⟨rfl, rfl⟩ := dict_ep hod hdt
    obtain ⟨⟨k, v⟩, hkv⟩ : ∃ p, kvs[i]? = some p := ⟨kvs[i], List.getElem?_eq_getElem hi⟩
    obtain ⟨en, q, hen, hkey, hq, hval⟩ := ent i k v hkv
    obtain ⟨ok, ov, he⟩ := st
    rw [← hsz] at he
    have hlt : it < s.heap.objs.size := Heap.lt_size he
    have hi' : i < es'.size := by rw [hsz]; exact hi
    refine DT.nextI he ⟨o, hgd, hx, hdt⟩ hi' fun h' ho hT hz hk => ⟨_, rfl, wpAny_letOwnedTupleGo_items (s := { s with heap := h' }) ho fun h'' he' sb => ?_⟩
    have een : es'[i] = en := by
      rw [Array.getElem?_eq_getElem hi'] at hen
      exact Option.some.inj hen
    rw [een, hkey] at hT
    have hT2 := (sb.2 _ (Nat.ne_of_gt hlt)).trans hT
    have new : ObjOk X.prog X.w (upd H s.heap.objs.size (.tup [.ref q, v])) h'' s.heap.objs.size (.tup [.ref q, v]) :=
      ⟨by show 2 ≤ sizeLine; decide, [.ref q, en.val], .cons rfl (.cons hval .nil), ⟨_, hT2, rfl, _, rfl⟩⟩
    refine ⟨.ref s.heap.objs.size, _, I.turnedNew (t' := s.toks) (ch := [it]) (fun b ob hb e => ?_) hf (Nat.le_refl _) new, rfl, ⟨_, q, k, v, hkv, hq, rfl, I.hok.fresh (Nat.le_refl _), rfl⟩, ⟨_, _, hsz ▸ he'⟩, fun b hb => ?_⟩
    · have hb : b ≠ it := fun z => hb (by rw [z]; exact List.mem_singleton.mpr rfl)
      exact (sb.2 b hb).trans (hk b ob hb e)
    · rw [List.mem_singleton.mp hb, upd_ne (Nat.ne_of_lt hlt)]
      exact (hf it (by simp)).1
  done := by
    intro X hP hw hK hc i pins s σ H E I hf st hg
    subst hP hw hK
    obtain ⟨hd, hi⟩ := hg
    obtain ⟨f0, f1, f2, f3, f4, f5⟩ := hf it (by simp)
    obtain ⟨hs, hgd, hx, es', ep', hdt, hsz, ent⟩ := frzTV I hd
    obtain ⟨rfl, rfl⟩ := dict_ep hod hdt
    obtain ⟨ok, ov, he⟩ := st
    rw [← hsz] at he hi
    exact DT.endI (I.ok.hd hc) he ⟨o, hgd, hx, hdt⟩ hi fun h' eb => ⟨rfl, I.turned (t' := s.toks) (fun b ob hb e => eb b ob hb e) f0 f1 f3 f4 f5⟩
  self := fun A i s Q E ⟨_, _, e⟩ h => PySem.W.kcp_self e h
def iItemsT (td : TE) : TI := fun σ H R => td σ H fun x H1 => ∃ d o kvs, x = .ref d ∧ H1 d = some (.frz o (.dT kvs)) ∧ R (ItT d o kvs) H1
theorem pi_itemsT {X : Cx} {e : Expr} {td : TE} {apos cpos tpos : Pos} {elts : List Expr} {kk : Nat} (he : PE X e td) (hbase : attributeBase e "items" X.env (eval e X.env) = eval e X.env := by rfl) (hline : (apos.endLine == cpos.line) = true := by rfl) :
    PI X (.Tuple elts kk tpos) (.Call (.Attribute e "items" apos) [] [] cpos) (iItemsT td) := by
  refine ⟨fun pins s σ H R I h => ?_⟩
  refine wpAny_Call_method (T := "dict") (id := "dict.items") hbase rfl hline F.plainAttrs_dict F.slot_dict_items F.type_dict_items (thn (he.run pins s σ H _ I h) fun u s1 ⟨x, H1, I1, rx, d, o, kvs, ex, hd, q⟩ => ?_)
  subst ex
  obtain rfl : u = Value.ref d := rx
  obtain ⟨hs, hgd, hx, es, ep, hdt, hsz, ent⟩ := frzTV I1 hd
  have raw : DT.Raw s1.heap d es ep := ⟨o, hgd, hx, hdt⟩
  refine ⟨raw.typeIs, fun a ea => ?_, ?_⟩
  · injection ea with ea
    subst ea
    exact ⟨o, hgd, hx.2.1⟩
  have I2 : Inv X pins σ H1 { s1 with heap := s1.heap.push { cls := .type "dict_items", data := .fields #[.ref d] } } := I1.kept (t' := s1.toks) fun b ob q => Heap.get?_push_of_some _ q
  have fin : wpAny (model X.prog X.w) X.A (pyIter (.ref s1.heap.objs.size)) (PIE X pins σ (.Tuple elts kk tpos) R) X.xe { s1 with heap := s1.heap.push { cls := .type "dict_items", data := .fields #[.ref d] } } := by
    refine DT.iterI (d := d) (es := es) (ep := ep) ⟨_, Heap.get?_push_size _ rfl, rfl, rfl⟩ (raw.push _) (pi_one (tk := s1.toks) I2 _ (turn_itemsT hdt) ⟨.none, .none, ?_⟩ q)
    rw [← hsz]
    exact Heap.get?_push_size _ rfl
  show wpAny _ _ (callWith cpos (.builtin "dict.items") [.ref d] [] []) _ X.xe s1
  exact method_meetsIn F.slot_dict_items F.entry_dict_items rfl (PySem.evalArgs_none ⟨rfl, raw.typeIs, F.args_dict_items_1 _, _, DT.meetsItems (es := es) (ep := ep) hs, raw, fin⟩)
end
end DK
/-! DKJ -/
set_option Elab.async false
set_option linter.all false
set_option maxRecDepth 100000
set_option maxHeartbeats 1000000
namespace DK
noncomputable section
open PySem PySem.Spec PyProof.Rows L2
open SlX (Slt SlO slH putS Slot1 SIsi)

mutual
/-- no dict with tuple keys within -/
def noD : D → Bool
  | .dct _ => false
  | .ownO _ _ => false
  | .tup ds => noDs ds
  | .lst ds => noDs ds
  | .obj _ ds => noDs ds
  | .own ds => noDs ds
  | _ => true
def noDs : List D → Bool
  | [] => true
  | d :: ds => noD d && noDs ds
end
def less (F : Hp) (d : Addr) : Hp := fun b => if b = d then none else F b
theorem less_ne {F : Hp} {d b : Addr} (h : b ≠ d) : less F d b = F b := by
  unfold less
  rw [if_neg h]
theorem less_at {F : Hp} {d : Addr} : less F d d = none := by
  unfold less
  rw [if_pos rfl]
mutual
theorem Rep.less {K : PySem.W.Frag} {ct : Nat → Addr} {F : Hp} {d0 : Addr} {kvs : List (List Key × V)} (h0 : F d0 = some (.dT kvs)) : ∀ {d : D} {v : V}, noD d = true → Rep K ct F v d → Rep K ct (less F d0) v d
  | _, _, _, .non => .non
  | _, _, _, .bl b => .bl b
  | _, _, _, .int i => .int i
  | _, _, _, .str l => .str l
  | _, _, hn, .tup h r => .tup (by rw [less_ne (ne_of h h0 (by intro q; cases q))]; exact h) (Reps.less h0 (by simpa [noD] using hn) r)
  | _, _, hn, .lst h r => .lst (by rw [less_ne (ne_of h h0 (by intro q; cases q))]; exact h) (Reps.less h0 (by simpa [noD] using hn) r)
  | _, _, _, .dset h => .dset (by rw [less_ne (ne_of h h0 (by intro q; cases q))]; exact h)
  | _, _, hn, .dct h => by simp [noD] at hn
  | _, _, hn, .obj h r => .obj (by
      rcases h with ⟨h, w⟩ | ⟨h, w⟩
      · exact .inl ⟨by rw [less_ne (ne_of h h0 (by intro q; cases q))]; exact h, w⟩
      · exact .inr ⟨by rw [less_ne (ne_of h h0 (by intro q; unfold SlO at q; cases q))]; exact h, by rw [less_ne (ne_of w h0 (by intro q; cases q))]; exact w⟩) (Reps.less h0 (by simpa [noD] using hn) r)
theorem Reps.less {K : PySem.W.Frag} {ct : Nat → Addr} {F : Hp} {d0 : Addr} {kvs : List (List Key × V)} (h0 : F d0 = some (.dT kvs)) : ∀ {d : List D} {v : List V}, noDs d = true → Reps K ct F v d → Reps K ct (less F d0) v d
  | _, _, _, .nil => .nil
  | _, _, hn, .cons r t => by
    simp only [noDs, Bool.and_eq_true] at hn
    exact .cons (Rep.less h0 hn.1 r) (Reps.less h0 hn.2 t)
end
def itemsD (kvs : List (List Int × Int)) : List D := kvs.map fun p => .tup [.tup (p.1.map .int), .int p.2]
def onlyNx : Out → Option Out
  | .nx e => some (.nx e)
  | .rt _ => none
def itemsO' (set : D → En → Option En) (f : En → Option Out) (env : En) : Option D → Option Out
  | some (.dct kvs) => if noDs env = true then bnd (lpD set f (itemsD kvs) env) onlyNx else none
  | _ => none
def iItems (j : Nat) (set : D → En → Option En) (f : En → Option Out) (env : En) : Option Out := itemsO' set f (env.set j .unb) env[j]?
theorem itemsO_some {set : D → En → Option En} {f : En → Option Out} {env : En} {x : Option D} {o : Out} (h : itemsO' set f env x = some o) : ∃ kvs e, x = some (.dct kvs) ∧ noDs env = true ∧ lpD set f (itemsD kvs) env = some (.nx e) ∧ o = .nx e := by
  unfold itemsO' at h
  split at h
  · split at h
    · next hn =>
      obtain ⟨o1, h1, h2⟩ := bnd_some h
      cases o1 with
      | nx e =>
        obtain rfl := Option.some.inj h2
        exact ⟨_, e, rfl, hn, h1, rfl⟩
      | rt d => cases h2
    · cases h
  · cases h
theorem noDs_get : ∀ {ds : List D} {i : Nat} {d : D}, noDs ds = true → ds[i]? = some d → noD d = true
  | [], _, _, _, h => by simp at h
  | _ :: _, 0, _, hn, h => by
    simp only [noDs, Bool.and_eq_true] at hn
    obtain rfl := Option.some.inj h
    exact hn.1
  | _ :: _, i + 1, _, hn, h => by
    simp only [noDs, Bool.and_eq_true] at hn
    exact noDs_get hn.2 (by simpa using h)
theorem walkT {d : Addr} {o : Obj} {kvs : List (List Key × V)} : Walk (ItT d o kvs) kvs.length (fun H => H d = some (.frz o (.dT kvs))) (fun i H x H' => ∃ T q k v, kvs[i]? = some (k, v) ∧ H q = some (.tup (k.map kV)) ∧ x = .ref T ∧ H T = none ∧ H' = upd H T (.tup [.ref q, v])) :=
  ⟨fun _ _ hi q => ⟨q, hi⟩, fun _ q => ⟨q, Nat.le_refl _⟩, fun _ _ _ _ _ _ y => y⟩
def gU (K : PySem.W.Frag) (z : Zc) (sl : List Nat) (set : D → En → Option En) : TG := fun v σ H Q => ∃ F0 H0, tG K ⟨z.ct, F0, H0, z.me⟩ sl set v σ H Q
def sU (K : PySem.W.Frag) (z : Zc) (i1 : En → Option Out) : TS := fun E σ H => ∃ F0 H0, tS K ⟨z.ct, F0, H0, z.me⟩ i1 E σ H
def lockD (E : Ends) (d : Addr) (u : HO) (od : Obj) : Ends := ⟨fun σ' H' => H' d = some (.frz od u) ∧ E.nx σ' (upd H' d u), fun v H' => H' d = some (.frz od u) ∧ E.rt v (upd H' d u), fun σ' H' => H' d = some (.frz od u) ∧ E.bk σ' (upd H' d u), fun σ' H' => H' d = some (.frz od u) ∧ E.ct σ' (upd H' d u)⟩
section
variable {X : Cx} {z : Zc} {tg : Expr} {ss : List Stmt} {pos : Pos} {i1 : En → Option Out}
theorem s_items (j : Nat) {x : Str} {p ap cp tpos : Pos} {elts : List Expr} {kk : Nat} {sl : List Nat} {set : D → En → Option En} (hp : PassesOwn (model X.prog X.w) X.A X.env X.xe) (hc : X.calm = true) (hl : PE X (.Name x p) (tVar j)) (hg : ∀ F0 H0, PG X (.Tuple elts kk tpos) (tG X.K ⟨z.ct, F0, H0, z.me⟩ sl set)) (hb : ∀ F0 H0, PSs X ss (tS X.K ⟨z.ct, F0, H0, z.me⟩ i1))
    (hbase : attributeBase (.Name x p) "items" X.env (eval (.Name x p) X.env) = eval (.Name x p) X.env := by rfl) (hline : (ap.endLine == cp.line) = true := by rfl) (hs : ∀ y, foldedSetIterable (.Call (.Attribute (.Name x p) "items" ap) [] [] cp) X.env y = pure y := by intro _; rfl) :
    PS X (.For (.Tuple elts kk tpos) (.Call (.Attribute (.Name x p) "items" ap) [] [] cp) ss [] pos) (tS X.K z (iItems j set i1)) := by
  have G : PG X (.Tuple elts kk tpos) (gU X.K z sl set) := ⟨fun pins s σ H v u Q I r ⟨F0, H0, q⟩ => (hg F0 H0).run pins s σ H v u Q I r q⟩
  have B : PSs X ss (sU X.K z i1) := ⟨fun pins s σ H E I ⟨F0, H0, q⟩ => (hb F0 H0).run pins s σ H E I q⟩
  refine ps_imp (ps_lock (ps_for hp hc (pi_itemsT hl hbase hline) G B hs)) fun E σ H ⟨F, env, R, o, ho, post⟩ => ?_
  obtain ⟨kvs, envE, hj, hn, hlp, rfl⟩ := itemsO_some ho
  obtain ⟨v, hv, hent⟩ := R.ent j _ hj (fun q => by cases q)
  cases (show Rep X.K z.ct F v (.dct kvs) from hent) with
  | @dct d _ hF =>
  have hH := R.sub _ _ hF
  refine ⟨d, .dT (kvs.map encT), hH, trivial, fun od => ⟨.ref d, hv, d, od, kvs.map encT, rfl, upd_same, ?_⟩⟩
  -- the heap within
  let z1 : Zc := ⟨z.ct, less z.F0 d, fun b => if b = d then some (.frz od (.dT (kvs.map encT))) else z.H0 b, z.me⟩
  have zne : ∀ {b : Addr}, b ≠ d → z1.H0 b = z.H0 b := fun {b} hb => if_neg hb
  have zat : z1.H0 d = some (.frz od (.dT (kvs.map encT))) := if_pos rfl
  have F0d : ∀ o, z.F0 d = some o → o = .dT (kvs.map encT) := fun o q => Option.some.inj ((R.gr.f _ _ q).symm.trans hF)
  have H0d : ∀ o, z.H0 d = some o → o = .dT (kvs.map encT) := fun o q => Option.some.inj ((R.gr.h _ _ q).symm.trans hH)
  have R1 : ER X.K z1 (less F d) (upd H d (.frz od (.dT (kvs.map encT)))) σ (env.set j .unb) := by
    refine ⟨by rw [List.length_set]; exact R.len, ⟨fun b o q => ?_, fun b o q => ?_, fun b o q => ?_, fun b o hb ht hf => ?_⟩, fun i e he hu => ?_, fun a b e e' l hab w1 w2 w3 w4 w5 w6 => ?_⟩
    · have hb : b ≠ d := fun w => by
        subst w
        have q : less z.F0 b b = some o := q
        rw [less_at] at q
        cases q
      have q : less z.F0 d b = some o := q
      rw [less_ne hb] at q ⊢
      exact R.gr.f _ _ q
    · by_cases hb : b = d
      · subst hb
        rw [upd_same]
        exact zat.symm.trans q
      · rw [upd_ne hb]
        rw [zne hb] at q
        exact R.gr.h _ _ q
    · have hb : b ≠ d := fun w => by
        subst w
        rw [less_at] at q
        cases q
      rw [less_ne hb] at q
      rw [upd_ne hb]
      exact R.sub _ _ q
    · by_cases hbd : b = d
      · subst hbd
        exact less_at
      · rw [zne hbd] at hb
        have hf : less z.F0 d b = none := hf
        rw [less_ne hbd] at hf ⊢
        exact R.gr.n b o hb ht hf
    · by_cases hi : j = i
      · subst hi
        have hlt := (List.getElem?_eq_some_iff.mp he).1
        rw [List.length_set] at hlt
        rw [List.getElem?_set_self hlt] at he
        exact absurd (Option.some.inj he).symm hu
      · have hnd := noDs_get hn he
        rw [List.getElem?_set_ne hi] at he
        obtain ⟨u, q1, q2⟩ := R.ent i e he hu
        refine ⟨u, q1, ?_⟩
        have own_ne : ∀ {l : Addr}, F l = none → l ≠ d := fun {l} q w => by
          subst w
          rw [hF] at q
          cases q
        cases e <;> first
          | exact Rep.less hF hnd q2
          | skip
        · exact trivial
        · obtain ⟨l, xs, rfl, t1, t2, t3, t4⟩ := q2
          have nl := own_ne t2
          exact ⟨l, xs, rfl, by rw [upd_ne nl]; exact t1, by rw [less_ne nl]; exact t2, by rw [zne nl]; exact t3, Reps.less hF (by simpa [noD] using hnd) t4⟩
        · obtain ⟨l, rfl, t1, t2, t3⟩ := q2
          have nl := own_ne t2
          exact ⟨l, rfl, by rw [upd_ne nl]; exact t1, by rw [less_ne nl]; exact t2, by rw [zne nl]; exact t3⟩
        · simp [noD] at hnd
    · have ne : ∀ {c : Nat} {e : D}, (env.set j .unb)[c]? = some e → e.isOwn = true → j ≠ c := fun {c e} q1 q3 hc => by
        subst hc
        have hlt := (List.getElem?_eq_some_iff.mp q1).1
        rw [List.length_set] at hlt
        rw [List.getElem?_set_self hlt] at q1
        obtain rfl := Option.some.inj q1
        cases q3
      have na := ne w1 w3
      have nb := ne w2 w4
      rw [List.getElem?_set_ne na] at w1
      rw [List.getElem?_set_ne nb] at w2
      exact R.dis a b e e' l hab w1 w2 w3 w4 w5 w6
  refine for_it (g := gU X.K z sl set) (tb := sU X.K z i1) (D := lockD E d (.dT (kvs.map encT)) od) walkT (fun i σ H => ∃ F2 env2, ER X.K z1 F2 H σ env2 ∧ Same (less F d) F2 ∧ lpD set i1 ((itemsD kvs).drop i) env2 = some (.nx envE)) ⟨less F d, _, R1, .refl _, hlp⟩ (fun i σ H hi ⟨F2, env2, R2, s2, _⟩ => R2.gr.h _ _ zat) (fun i x σ H H' hi ⟨F2, env2, R2, s2, h2⟩ y => ?_) (fun σ H ⟨F2, env2, R2, s2, h2⟩ => ?_)
  · obtain ⟨T, q, k, v, hk, hq, rfl, nT, rfl⟩ := y
    have hlt : i < kvs.length := by
      rw [List.length_map] at hi
      exact hi
    obtain ⟨⟨ks, n⟩, hkn⟩ : ∃ pr, kvs[i]? = some pr := ⟨kvs[i], List.getElem?_eq_getElem hlt⟩
    rw [List.getElem?_map, hkn] at hk
    have hk := Option.some.inj hk
    injection hk with hk1 hk2
    subst hk1
    subst hk2
    rw [keyTup] at hq
    have hit : (itemsD kvs)[i]? = some (.tup [.tup (ks.map .int), .int n]) := by
      unfold itemsD
      rw [List.getElem?_map, hkn]
      rfl
    have hlt2 : i < (itemsD kvs).length := (List.getElem?_eq_some_iff.mp hit).1
    rw [List.drop_eq_getElem_cons hlt2] at h2
    have e1 : (itemsD kvs)[i] = .tup [.tup (ks.map .int), .int n] := by
      rw [List.getElem?_eq_getElem hlt2] at hit
      exact Option.some.inj hit
    rw [e1] at h2
    obtain ⟨env3, h3, h2⟩ := bnd_some h2
    obtain ⟨o3, h4, h2⟩ := bnd_some h2
    have sq : Same F2 (upd F2 q (.tup (ks.map V.int))) := fun b o w => by
      by_cases hb : b = q
      · subst hb
        rw [upd_same]
        exact hq.symm.trans (R2.sub _ _ w)
      · rw [upd_ne hb]
        exact w
    have gq : Grow F2 H (upd F2 q (.tup (ks.map V.int))) H := ⟨sq, .refl _, fun b o w => by
      by_cases hb : b = q
      · subst hb
        rw [upd_same] at w
        rw [← w]
        exact hq
      · rw [upd_ne hb] at w
        exact R2.sub _ _ w, fun b o w ht hf => by
      rw [upd_ne (fun e => by
        subst e
        exact ht _ (Option.some.inj (w.symm.trans hq)))]
      exact hf⟩
    have gT := Grow.new (o := .tup [.ref q, .int n]) gq.s nT
    have g3 := gq.trans gT
    refine ⟨z1.F0, z1.H0, _, env2, _, R2.grow g3, .tup upd_same (.cons (.tup (gT.f _ _ upd_same) ints_reps) (.cons (.int n) .nil)), env3, h3, fun σ' R' _ _ => ⟨z1.F0, z1.H0, _, env3, R', o3, h4, ?_⟩⟩
    cases o3 with
    | nx e => exact fun F' H' σ' s R'' => ⟨F', e, R'', (s2.trans g3.f).trans s, h2⟩
    | rt d => cases h2
  · have hd2 : H d = some (.frz od (.dT (kvs.map encT))) := R2.gr.h _ _ zat
    have nF2 : F2 d = none := R2.gr.n d _ zat (fun _ w => by cases w) less_at
    refine ⟨hd2, ?_⟩
    rw [show (kvs.map encT).length = (itemsD kvs).length by unfold itemsD; rw [List.length_map, List.length_map], List.drop_length] at h2
    have h2 := Option.some.inj h2
    injection h2 with h2
    subst h2
    have sF : Same F2 (upd F2 d (.dT (kvs.map encT))) := same_upd nF2
    refine post (upd F2 d (.dT (kvs.map encT))) _ σ (fun b o w => ?_) ⟨R2.len, ⟨fun b o w => ?_, fun b o w => ?_, fun b o w => ?_, fun b o hb ht hf => ?_⟩, fun i e he hu => ?_, R2.dis⟩
    · by_cases hb : b = d
      · subst hb
        rw [upd_same]
        exact hF.symm.trans w
      · rw [upd_ne hb]
        exact s2 _ _ (by rw [less_ne hb]; exact w)
    · by_cases hb : b = d
      · subst hb
        rw [upd_same, F0d o w]
      · rw [upd_ne hb]
        exact R2.gr.f _ _ (show less z.F0 d b = some o by rw [less_ne hb]; exact w)
    · by_cases hb : b = d
      · subst hb
        rw [upd_same, H0d o w]
      · rw [upd_ne hb]
        exact R2.gr.h _ _ (by rw [zne hb]; exact w)
    · by_cases hb : b = d
      · subst hb
        rw [upd_same] at w ⊢
        exact w
      · rw [upd_ne hb] at w ⊢
        exact R2.gr.s _ _ w
    · have hbd : b ≠ d := fun w => by
        subst w
        have q := R.gr.n b o hb ht hf
        rw [hF] at q
        cases q
      rw [upd_ne hbd]
      exact R2.gr.n b o (by rw [zne hbd]; exact hb) ht (show less z.F0 d b = none by rw [less_ne hbd]; exact hf)
    · obtain ⟨u, q1, q2⟩ := R2.ent i e he hu
      refine ⟨u, q1, ?_⟩
      cases e <;> first
        | exact Rep.mono sF q2
        | skip
      · exact trivial
      · obtain ⟨l, xs, rfl, t1, t2, t3, t4⟩ := q2
        have nl : l ≠ d := ne_of t1 hd2 (by intro q; cases q)
        exact ⟨l, xs, rfl, by rw [upd_ne nl]; exact t1, by rw [upd_ne nl]; exact t2, by rw [← zne nl]; exact t3, t4.mono sF⟩
      · obtain ⟨l, rfl, t1, t2, t3⟩ := q2
        have nl : l ≠ d := ne_of t1 hd2 (by intro q; cases q)
        exact ⟨l, rfl, by rw [upd_ne nl]; exact t1, by rw [upd_ne nl]; exact t2, by rw [← zne nl]; exact t3⟩
      · obtain ⟨a, dx, vs, rfl, ne, t1, ⟨o, t2, ho2⟩, t3, t4, t5, t6, t7, t8⟩ := q2
        have n1 : a ≠ d := by
          rcases t1 with ⟨w, _⟩ | ⟨w, _⟩
          · exact ne_of w hd2 (by intro q; cases q)
          · exact ne_of w hd2 (by intro q; unfold SlO at q; cases q)
        have n2 : dx ≠ d := ne_of t2 hd2 (by intro q; rcases ho2 with w | w <;> (rw [w] at q; cases q))
        refine ⟨a, dx, vs, rfl, ne, ?_, ⟨o, by rw [upd_ne n2]; exact t2, ho2⟩, by rw [upd_ne n1]; exact t3, by rw [upd_ne n2]; exact t4, by rw [← zne n1]; exact t5, by rw [← zne n2]; exact t6, t7, fun i d' hd' => (t8 i d' hd').imp id fun ⟨x, y1, y2⟩ => ⟨x, y1, y2.mono sF⟩⟩
        rcases t1 with ⟨w, w2⟩ | ⟨w, w2⟩
        · exact .inl ⟨by rw [upd_ne n1]; exact w, w2⟩
        · exact .inr ⟨by rw [upd_ne n1]; exact w, by rw [upd_ne n2]; exact w2⟩
end
end
end DK
/-! E5 -/
set_option Elab.async false
set_option linter.all false
set_option maxRecDepth 100000
set_option maxHeartbeats 4000000
namespace DK
noncomputable section
open PySem PySem.Spec PyProof.Rows L2
open SlX (Slt SlO slH putS Slot1 SIsi)

section
variable {P : Program} {w : World} {K : PySem.W.Frag} {mg : Str → Option Value} {base : Heap} {ct : Nat → Addr}
theorem sc_grown_from : FnScope ["slope", "layer", "found", "gaps", "number", "member", "grown"] ["slope", "layer"] (defScope (topS 45)) := ⟨rfl, rfl, rfl, by decide +kernel, rfl, by decide +kernel, by decide +kernel⟩
def g_grown_from : En → Option Out := (iSeq (iOwnD 2) (iSeq (iItems 1 (gTp [3, 4]) (iFor (uF itemsOf (u1L (onO 2 m_shelf_removable) (makeD 2 m_init_Shelf (aCons (vget 0) (aCons (vget 3) aNil))))) (gNm 5) (iSeq (iSet 6 (callD m_with_gap (aCons (vget 3) (aCons (vget 5) aNil)))) (iPut 2 (vget 6) (peek 2 (b2 addD (getD3 (vget 2) (vget 6) (cst (.int 0))) (vget 4))))))) (iFrz 2 (iRet (vget 2)))))
def m_grown_from : List D → Option D := fnD 2 5 g_grown_from
theorem ok_grown_from {f : Addr} {fd : FuncData} (F : Fun K "grown_from" "grown_from" (topS 45) f fd) (B : Bt mg) (C : Cf K mg ct) (c_Shelf : Mak P w K mg base ct 4 "Shelf" 2 m_init_Shelf) {g_shelf_removable : Addr} (q_shelf_removable : Meth K (ct 2) "removable" g_shelf_removable ∧ Met P w K mg base ct 4 g_shelf_removable m_shelf_removable) (c_with_gap : Cal P w K mg base ct 1 "with_gap" m_with_gap) : FnOk P w K mg base CX0 6 f fd ["slope", "layer"] (spD K ct m_grown_from) :=
  have S := sc_grown_from; ok_fn (k := 5) F S rfl fun cdv A outer s H E F0 H0 hr => (ss_cons (s_ownD 2 S.nd (by first | exact Or.inl rfl | exact Or.inr rfl)) (ss_cons (s_items 1 PassesOwn.never rfl (pv 1) (fun _ _ => (g_tup rfl (gs_cons 3 S.nd (by first | exact Or.inl rfl | exact Or.inr rfl) (gs_cons 4 S.nd (by first | exact Or.inl rfl | exact Or.inr rfl) gs_nil)))) (fun _ _ => (ss_one (s_for PassesOwn.never rfl (p_any (d_methO C.kShelf q_shelf_removable.1 q_shelf_removable.2 (hr.mono (by decide)) (d_make c_Shelf (hr.mono (by decide)) (a_cons (d_var 0 (pv 0)) (a_cons (d_var 3 (pv 3)) a_nil))))) (g_name 5 S.nd (by first | exact Or.inl rfl | exact Or.inr rfl)) (ss_cons (s_set 6 S.nd (by first | exact Or.inl rfl | exact Or.inr rfl) (d_call c_with_gap (hr.mono (by decide)) (a_cons (d_var 3 (pv 3)) (a_cons (d_var 5 (pv 5)) a_nil)))) (ss_one (s_put 2 (ps_dput (hu_of hr) (pv 2) (d_var 6 (pv 6)) (d_peek 2 (d_add (d_get (hu_of hr) (d_var 2 (pv 2)) (d_var 6 (pv 6)) d_int ⟨rfl, rfl, rfl, rfl⟩) (d_var 4 (pv 4)))) (by rfl))))))))) (ss_frz 2 (ss_one (s_ret (d_var 2 (pv 2)))))))
end
end
end DK
/-! DKS -/
set_option Elab.async false
set_option linter.all false
set_option maxRecDepth 100000
set_option maxHeartbeats 1000000
/-! Dicts with tuple keys: != of one and an empty one, a display of one entry. -/
namespace DKT
open PySem PySem.Spec PySem.Calls PyProof.Rows
section
variable {prog : Program} {w : World} {A : Around} {E : Value → Shared → Prop} {s : Shared}
theorem same_empty {nm : String} {a b : Addr} {es es' : Array DictEntry} {ep ep' : Nat} {Q : Bool → Shared → Prop} (ha : (a == sysModules) = false) (hb : (b == sysModules) = false) (da : DT.Raw s.heap a es ep) (db : DT.Raw s.heap b es' ep') (h0 : es'.size = 0)
    (h : Q (es.size == 0) s) : wpAny (model prog w) A (Builtin.Dict.samePairs nm a b) Q E s := by
  obtain ⟨oa, hoa, _, hda⟩ := da
  obtain ⟨ob, hob, _, hdb⟩ := db
  unfold Builtin.Dict.samePairs Builtin.Dict.showsAll
  rw [if_neg (by rw [ha]; exact Bool.false_ne_true), if_neg (by rw [hb]; exact Bool.false_ne_true)]
  refine wpAny_bind (wpAny_pure (wpAny_bind (wpAny_pure (wpAny_bind (wpAny_dictEntries hoa hda ?_)))))
  dsimp only
  refine wpAny_bind (wpAny_dictEntries hob hdb ?_)
  by_cases hz : es.size = 0
  · rw [if_neg (by rw [hz, h0]; simp)]
    refine wpAny_bind (wpAny_dictEpoch hoa hda (wpAny_bind ?_))
    rw [hz] at h ⊢
    rw [Std.Legacy.Range.forIn_eq_forIn_range']
    exact wpAny_pure (wpAny_pure h)
  · rw [if_pos (by rw [h0]; simpa using hz)]
    have e : (es.size == 0) = false := by simpa using hz
    rw [e] at h
    exact wpAny_bind (wpAny_rule (wpAny_pure h))
theorem ne_empty {a b : Addr} {es es' : Array DictEntry} {ep ep' : Nat} {Q : Value → Shared → Prop} (ha : (a == sysModules) = false) (hb : (b == sysModules) = false) (da : DT.Raw s.heap a es ep) (db : DT.Raw s.heap b es' ep') (h0 : es'.size = 0) (hu : A.units < cLine)
    (h : Q (.bool (!(es.size == 0))) s) : wpAny (model prog w) A (richCompare .NotEq (.ref a) (.ref b)) Q E s := by
  refine wpAny_richCompare_same_room (op := .NotEq) da.typeIs db.typeIs PySem.F.slot_dict_ne (wpAny_call_entry PySem.F.slot_dict_ne da.typeIs PySem.F.entry_dict_ne ?_ (PySem.F.args_dict_ne_2 _ _)) hu
  show wpAny _ _ (Builtin.Dict.dictSlotArgs "__ne__" ⟨[.ref a, .ref b], []⟩ >>= _) _ _ s
  refine wpAny_bind ?_
  unfold Builtin.Dict.dictSlotArgs
  refine wpAny_bind (wpAny_notOrdered_dict da.typeIs ?_)
  show wpAny _ _ (pure (Value.ref a, Value.ref b)) _ _ s
  refine wpAny_pure (wpAny_bind (wpAny_isInstance (T := "dict") db.typeIs PySem.F.sub_dict_dict ?_))
  simp only [Bool.not_true, Bool.false_eq_true, if_false]
  refine wpAny_bind (wpAny_pure (wpAny_bind (wpAny_pure (wpAny_bind (same_empty ha hb da db h0 ?_)))))
  refine wpAny_pure ⟨_, rfl, (fun x => nomatch x), ?_⟩
  simpa using h
end
end DKT
namespace DK
noncomputable section
open PySem PySem.Spec PyProof.Rows L2
open SlX (Slt SlO slH putS Slot1 SIsi)
section
variable {X : Cx}
theorem dt_raw {H : Hp} {s : Shared} {pins : List (Addr × Obj)} {σ : L2.St} {d : Addr} {kvs : List (List Key × V)} (I : Inv X pins σ H s) (h : H d = some (.dT kvs)) : (d == sysModules) = false ∧ ∃ (es : Array DictEntry) (ep : Nat), es.size = kvs.length ∧ DT.Raw s.heap d es ep := by
  obtain ⟨z, hs, xs, pr, o, es, ep, ho, hx, hdt, he, _⟩ := I.hok d _ h
  refine ⟨hs, es, ep, ?_, o, ho, hx, hdt⟩
  have l1 : es.size = xs.length := size_of_entries he
  have l2 : kvs.length = xs.length := Paired.length pr
  rw [l1, l2]
def rNeT : R2 := fun x y H Q => ∃ (a b : Addr) (kvs : List (List Key × V)), x = .ref a ∧ y = .ref b ∧ H a = some (.dT kvs) ∧ H b = some (.dT []) ∧ Q (.bl (!kvs.isEmpty)) H
theorem op_neT (hu : X.A.units < cLine) : OpR X (compareOp .NotEq) rNeT := by
  intro pins s σ H x y v u Q I rx ry h
  obtain ⟨a, b, kvs, rfl, rfl, ha, hb, q⟩ := h
  cases rx
  cases ry
  obtain ⟨a1, es, ep, e1, ra⟩ := dt_raw I ha
  obtain ⟨b1, es', ep', e2, rb⟩ := dt_raw I hb
  show wpAny _ _ (richCompare .NotEq (.ref a) (.ref b)) _ _ s
  refine DKT.ne_empty a1 b1 ra rb e2 hu ⟨.bl _, H, I, ?_, q⟩
  show Value.bool _ = Value.bool _
  rw [e1]
  cases kvs <;> rfl
def tDisp1T (tk tv : TE) : TE := fun σ H Q => ∀ p, H p = none → tk σ (upd H p (.dT [])) fun x H1 => tv σ H1 fun y H2 => ∃ (b : Addr) (k : List Key), x = .ref b ∧ H2 b = some (.tup (k.map kV)) ∧ H2 p = some (.dT []) ∧ Q (.ref p) (upd H2 p (.dT [(k, y)]))
theorem q_of_pairs {tk tv : TE} {σ : L2.St} {H : Hp} {p : Addr} {Q : VK} (q : tk σ (upd H p (.dT [])) fun x H1 => tv σ H1 fun y H2 => ∃ (b : Addr) (k : List Key), x = .ref b ∧ H2 b = some (.tup (k.map kV)) ∧ H2 p = some (.dT []) ∧ Q (.ref p) (upd H2 p (.dT [(k, y)]))) :
    tk σ (upd H p (.dT [])) fun x H1 => tv σ H1 fun y H2 => ∃ x' y', [(x, y)] = [(x', y')] ∧ ∃ (b : Addr) (k : List Key), x' = .ref b ∧ H2 b = some (.tup (k.map kV)) ∧ H2 p = some (.dT []) ∧ Q (.ref p) (upd H2 p (.dT [(k, y')])) := by
  have e : (fun (x : V) (H1 : Hp) => tv σ H1 fun y H2 => ∃ (b : Addr) (k : List Key), x = .ref b ∧ H2 b = some (.tup (k.map kV)) ∧ H2 p = some (.dT []) ∧ Q (.ref p) (upd H2 p (.dT [(k, y)]))) = fun x H1 => tv σ H1 fun y H2 => ∃ x' y', [(x, y)] = [(x', y')] ∧ ∃ (b : Addr) (k : List Key), x' = .ref b ∧ H2 b = some (.tup (k.map kV)) ∧ H2 p = some (.dT []) ∧ Q (.ref p) (upd H2 p (.dT [(k, y')])) := by
    funext x H1
    congr 1
    funext y H2
    apply propext
    constructor
    · intro h
      exact ⟨x, y, rfl, h⟩
    · rintro ⟨x', y', e, h⟩
      injection e with e _
      injection e with e1 e2
      subst e1
      subst e2
      exact h
  rw [← e]
  exact q
theorem pe_disp1T {k v : Expr} {tk tv : TE} {pos : Pos} (hu : X.A.units + 1 < cLine) (hk : PE X k tk) (hv : PE X v tv) : PE X (.Dict [some k] [v] pos) (tDisp1T tk tv) := by
  refine ⟨fun pins s σ H Q I q => ?_⟩
  have hn := I.hok.fresh (Nat.le_refl s.heap.objs.size)
  have I1 := I.laid (a := s.heap.objs.size) (o := .dT []) (h' := s.heap.push { cls := .type "dict", data := .dict #[] }) (t' := s.toks) (fun _ _ q => Heap.get?_push_of_some _ q) (Nat.le_refl _) (dt_empty s.heap I.big)
  rw [arm_eval_Dict, zip_pairTrees [some k] [v] X.env pos rfl rfl, dictDisplay_pairs _ (by simp [pairTrees]) (by simp [pairTrees])]
  refine wpAny_bind (wpAny_standAt (wpAny_bind ?_))
  unfold subDict
  refine wpAny_bind (wpAny_alloc (wpAny_bind (wpAny_holding ?_)))
  rw [if_pos (by simp [pairTrees])]
  refine wpAny_bind (thn ((pps_cons hk hv pps_nil).run pins _ σ _ (fun ps H2 => ∃ x y, ps = [(x, y)] ∧ ∃ (b : Addr) (k : List Key), x = .ref b ∧ H2 b = some (.tup (k.map kV)) ∧ H2 s.heap.objs.size = some (.dT []) ∧ Q (.ref s.heap.objs.size) (upd H2 s.heap.objs.size (.dT [(k, y)]))) I1 ?_) fun vs s2 ⟨ps, H2, I2, rel, x, y, e, b, kk, ex, eb, ep, hq⟩ => ?_)
  · have q := q _ hn
    exact q_of_pairs q
  · subst e
    subst ex
    cases rel with
    | @cons _ q2 _ _ r1 r2 =>
      cases r2
      obtain ⟨u, w⟩ := q2
      obtain ⟨r3, r4⟩ := r1
      obtain rfl : u = Value.ref b := r3
      obtain ⟨zz, hd, xs, rel, dd⟩ := dt_of I2.hok ep
      refine wpAny_holding (wpAny_bind ?_)
      rw [List.forIn_cons]
      have hz : xs.length ≤ sizeLine := by rw [← Paired.length rel]; exact zz
      refine wpAny_bind (wpAny_bind (wpAny_dictSet_heap (hsz := hz) (Nat.lt_of_succ_lt hu) (key_of I2.hok eb) dd fun h' dd' hs => wpAny_pure ?_))
      show wpAny _ _ (pure PUnit.unit) _ _ _
      refine wpAny_pure (wpAny_pure (wpAny_pure (wpAny_pure ?_)))
      refine ⟨.ref s.heap.objs.size, _, ?_, rfl, hq⟩
      obtain ⟨qo, es, ep2, hq2, h2, h3, h4, _, h5⟩ := dd'
      refine d_write I2 (by rw [ep]; exact True.intro) hs ⟨qo, hq2⟩ ⟨by show 1 ≤ sizeLine; decide, hd, _, (rel.put kk eb r4).keeps fun c ys ec => ?_, qo, es, ep2, hq2, h2, h3, h4, h5⟩
      rw [upd_ne (ne_of ec ep (fun z => nomatch z))]
      exact ec
end
end
end DK
/-! DKD -/
set_option Elab.async false
set_option linter.all false
set_option maxRecDepth 100000
set_option maxHeartbeats 1000000
/-! sorted(d), d a dict whose keys are tuples of ints. -/
namespace DK
noncomputable section
open PySem PySem.Spec PyProof.Rows L2
open SlX (Slt SlO slH putS Slot1 SIsi)

def leK : List Int → List Int → Bool
  | [], _ => true
  | _ :: _, [] => false
  | x :: xs, y :: ys => if x = y then leK xs ys else decide (x < y)
def insK (n : List Int) : List (List Int) → List (List Int)
  | [] => [n]
  | m :: r => if leK n m then n :: m :: r else m :: insK n r
def srtK : List (List Int) → List (List Int)
  | [] => []
  | n :: r => insK n (srtK r)
theorem leK_is : ∀ p q : List Int, leK p q = !decide (q < p)
  | [], q => by simp [leK]
  | x :: xs, [] => by simp [leK]
  | x :: xs, y :: ys => by
    rw [leK]
    by_cases h : x = y
    · subst h
      rw [if_pos rfl, leK_is xs ys]
      simp [List.cons_lt_cons_iff]
    · rw [if_neg h]
      by_cases h2 : x < y
      · have h3 : ¬ y < x := by omega
        have h4 : ¬ y = x := fun e => h e.symm
        simp [List.cons_lt_cons_iff, h2, h3, h4]
      · have h3 : y < x := by omega
        simp [List.cons_lt_cons_iff, h2, h3]
theorem leK_iff {p q : List Int} : leK p q = true ↔ p ≤ q := by
  rw [leK_is]
  simp
theorem insK_perm (n : List Int) : ∀ r, (insK n r).Perm (n :: r)
  | [] => .refl _
  | m :: r => by
    rw [insK]
    split
    · exact .refl _
    · exact ((insK_perm n r).cons m).trans (List.Perm.swap n m r)
theorem srtK_perm : ∀ ns, (srtK ns).Perm ns
  | [] => .refl _
  | n :: r => (insK_perm n _).trans ((srtK_perm r).cons n)
theorem insK_pair (n : List Int) : ∀ r, r.Pairwise (fun a b => leK a b = true) → (insK n r).Pairwise (fun a b => leK a b = true)
  | [], _ => List.pairwise_singleton _ _
  | m :: r, h => by
    rw [insK]
    have h := List.pairwise_cons.mp h
    split
    · next hle =>
      refine List.pairwise_cons.mpr ⟨fun y hy => ?_, List.pairwise_cons.mpr h⟩
      rcases List.mem_cons.mp hy with rfl | hy
      · exact hle
      · exact leK_iff.mpr (List.le_trans (leK_iff.mp hle) (leK_iff.mp (h.1 y hy)))
    · next hle =>
      refine List.pairwise_cons.mpr ⟨fun y hy => ?_, insK_pair n r h.2⟩
      rcases List.mem_cons.mp ((insK_perm n r).mem_iff.mp hy) with rfl | hy
      · rcases List.le_total y m with q | q
        · exact absurd (leK_iff.mpr q) hle
        · exact leK_iff.mpr q
      · exact h.1 y hy
theorem srtK_pair : ∀ ns, (srtK ns).Pairwise (fun a b => leK a b = true)
  | [] => .nil
  | n :: r => insK_pair n _ (srtK_pair r)
theorem merge_srtK (ns : List (List Int)) : ns.mergeSort leK = srtK ns := by
  have p1 : (ns.mergeSort leK).Perm (srtK ns) := (List.mergeSort_perm ns leK).trans (srtK_perm ns).symm
  have p2 : (ns.mergeSort leK).Pairwise (fun a b => leK a b = true) := List.pairwise_mergeSort (le := leK) (fun a b c h1 h2 => leK_iff.mpr (List.le_trans (leK_iff.mp h1) (leK_iff.mp h2))) (fun a b => by
    rcases List.le_total a b with q | q
    · rw [leK_iff.mpr q, Bool.true_or]
    · rw [leK_iff.mpr q, Bool.or_true]) ns
  exact List.Perm.eq_of_pairwise (le := fun a b => leK a b = true) (fun x y _ _ h1 h2 => List.le_antisymm (leK_iff.mp h1) (leK_iff.mp h2)) p2 (srtK_pair ns) p1
def encK (ks : List Int) : PyData := .tuple (ks.map .int)
theorem dataLe_K : PySem.W.dataLe false encK = leK := by
  funext p q
  show (!PySem.W.dataLt (.tuple (q.map .int)) (.tuple (p.map .int))) = _
  rw [PySem.W.dataLt_tuple]
  show (!PySem.W.rowLt (q.map .int) (p.map .int)) = _
  rw [PySem.W.dataLt_ints, leK_is]
section
variable {X : Cx}
theorem reads0 {h : Heap} : ∀ {ns : List Int} {us : List Value}, Vals (ns.map V.int) us → ReadsAll h us (ns.map .int) []
  | [], _, .nil => .nil
  | n :: ns, _, .cons r t => by
    obtain ⟨u, rfl⟩ := r
    exact ReadsAll.cons (as := []) (.int _ _) (reads0 t)
/-- texts apart, tuples of ints -/
def Tp (H : Hp) (v : Value) (ks : List Int) : Prop := ∃ q, v = .ref q ∧ H q = some (.tup (ks.map V.int))
theorem tps_vals {H : Hp} : ∀ {out : List Value} {kss : List (List Int)}, PySem.W.EachIs (Tp H) out kss → ∃ xs : List V, Vals xs out ∧ xs.length = kss.length ∧ ∀ (i : Nat) (ks : List Int), kss[i]? = some ks → ∃ q, xs[i]? = some (.ref q) ∧ H q = some (.tup (ks.map V.int))
  | _, _, .nil => ⟨[], .nil, rfl, fun i ks h => by simp at h⟩
  | _, _, .cons (a := a) (b := b) h t => by
    obtain ⟨xs, r, hl, hx⟩ := tps_vals t
    obtain ⟨q, rfl, hq⟩ := h
    refine ⟨.ref q :: xs, .cons rfl r, congrArg (· + 1) hl, fun i ks h => ?_⟩
    cases i with
    | zero =>
      obtain rfl := Option.some.inj h
      exact ⟨q, rfl, hq⟩
    | succ i =>
      obtain ⟨q', h1, h2⟩ := hx i ks (by simpa using h)
      exact ⟨q', by simpa using h1, h2⟩
theorem tps_each {H : Hp} : ∀ {us : List Value} {kss : List (List Int)}, us.length = kss.length → (∀ (j : Nat) (v : Value), us[j]? = some v → ∃ ks, kss[j]? = some ks ∧ Tp H v ks) → PySem.W.EachIs (Tp H) us kss
  | [], [], _, _ => .nil
  | [], _ :: _, h, _ => by cases h
  | _ :: _, [], h, _ => by cases h
  | u :: us, k :: kss, hl, h => by
    obtain ⟨ks, e1, e2⟩ := h 0 u rfl
    obtain rfl := Option.some.inj e1
    exact .cons e2 (tps_each (by simpa using hl) fun j v e => by
      obtain ⟨ks, a, b⟩ := h (j + 1) v (by simpa using e)
      exact ⟨ks, by simpa using a, b⟩)
theorem swo_none : SrtO.Swo fun (_ _ : Value) => false := ⟨fun _ _ h => (by cases h), fun _ _ _ _ _ => rfl⟩
def rSrtD : List V → Hp → VK → Prop := fun vs H Q => ∃ (a : Addr) (kvs : List (List Int × Int)), vs = [V.ref a] ∧ H a = some (.dT (kvs.map encT)) ∧ (kvs.length ≤ 1 ∨ ∀ p ∈ kvs, p.1 ≠ []) ∧
  ∀ (p : Addr) (xs : List V), H p = none → xs.length = kvs.length → (∀ (i : Nat) (ks : List Int), (srtK (kvs.map (·.1)))[i]? = some ks → ∃ q, xs[i]? = some (.ref q) ∧ H q = some (.tup (ks.map V.int))) → Q (.ref p) (upd H p (.lst xs))
theorem cr_srtD (hc : X.calm = true) (hu : X.A.units + 64 < cLine) : CallR X (.builtin "sorted") rSrtD := by
  intro pins s σ H vs us Q I r h
  obtain ⟨a, kvs, rfl, ha, hne, q⟩ := h
  rw [Vals.ref1 r]
  obtain ⟨z, lo, xs0, pr, o, es, ep, ho, hx, hdt, he, _⟩ := I.hok a _ ha
  have l1 : es.size = xs0.length := size_of_entries he
  have l2 : (kvs.map encT).length = xs0.length := Paired.length pr
  have l3 : es.size = kvs.length := by rw [l1, ← l2, List.length_map]
  have hz : kvs.length ≤ sizeLine := by
    rw [List.length_map] at z
    exact z
  refine PySem.Calls.call_function_entry PyProof.Rows.kind_sorted PyProof.Rows.plain_sorted PyProof.Rows.entry_sorted (PyProof.Rows.args_sorted1 _) ?_
  unfold Builtin.«sorted»
  refine wpAny_bind (m := PySem.checkCount "sorted" 1 1 _) (wpAny_pure ?_)
  refine wpAny_bind (PySem.W.kdu_collect (A := X.A.in1) (PySem.KdlSrc.rawDict (es := es) (ep := ep) lo) (I.ok.hd hc) ⟨o, ho, hx, hdt⟩ (by rw [l3]; exact hz) fun h' tk acc hk hacc => ?_)
  have hal : acc.toList.length = kvs.length := by rw [Array.length_toList, hacc.1, l3]
  have E0 : PySem.W.EachIs (Tp H) acc.toList (kvs.map (·.1)) := tps_each (by rw [hal, List.length_map]) fun j v e => by
    obtain ⟨hj, rfl⟩ := hacc.2 j v (by rw [← Array.getElem?_toList]; exact e)
    have hjk : j < kvs.length := by rw [← l3]; exact hj
    obtain ⟨b, hb, e1, e2, _⟩ := paired_get pr (i := j) (a := encT kvs[j]) (by rw [List.getElem?_map, List.getElem?_eq_getElem hjk]; rfl)
    have qe := entry_at he j
    rw [hb, Array.getElem?_eq_getElem hj] at qe
    have qe := Option.some.inj qe
    refine ⟨kvs[j].1, by rw [List.getElem?_map, List.getElem?_eq_getElem hjk]; rfl, b.2.1, by rw [qe]; rfl, ?_⟩
    rw [e2]
    exact congrArg (fun l => some (HO.tup l)) (keyTup _)
  have I1 : Inv X pins σ H { s with heap := h', toks := tk } := I.kept hk
  refine wpAny_bind (wpAny_newList ?_ (by rw [hal]; exact hz))
  have hoL : (h'.push (seqObj "list" acc.toList.toArray 0)).get? h'.objs.size = some (seqObj "list" acc.toList.toArray 0) := Heap.get?_push_size _ rfl
  show wpAny _ _ _ _ _ { s with heap := h'.push (seqObj "list" acc.toList.toArray 0), toks := tk }
  have fin : ∀ out : List Value, out.length = acc.toList.length → PySem.W.EachIs (Tp H) out (srtK (kvs.map (·.1))) → EP X pins σ Q (.ref h'.objs.size) { s with heap := PyProof.Rows.sortedHeap (h'.push (seqObj "list" acc.toList.toArray 0)) h'.objs.size acc.toList out.toArray, toks := tk } := fun out ho E => by
    obtain ⟨xs, rv, hxl, hx⟩ := tps_vals E
    have hxl2 : xs.length = kvs.length := by rw [hxl, (srtK_perm _).length_eq, List.length_map]
    obtain ⟨e', he'⟩ := PyProof.Rows.sortedHeap_at (vs := acc.toList) (out := out.toArray) hoL
    refine ⟨.ref h'.objs.size, L2.upd H h'.objs.size (.lst xs), I1.laid (t' := tk) (fun b u e => ?_) (Nat.le_refl _) (show ObjOk X.prog X.w _ _ _ (.lst xs) from ⟨by rw [hxl2]; exact hz, out, e', rv, he'⟩), rfl, q _ xs (I1.hok.fresh (Nat.le_refl _)) hxl2 hx⟩
    have hb : b < h'.objs.size := Heap.lt_size e
    rw [PyProof.Rows.sortedHeap_old (Nat.ne_of_lt hb) (by rw [Heap.size_push]; exact Nat.lt_succ_of_lt hb)]
    exact Heap.get?_push_of_some _ e
  by_cases h2 : kvs.length ≤ 1
  · refine wpAny_bind (wpAny_holding (wpAny_call_entry PyProof.Rows.slot_list_sort ⟨_, hoL, rfl⟩ PyProof.Rows.entry_list_sort (SrtO.list_sort_ord (s := { s with heap := h'.push (seqObj "list" acc.toList.toArray 0), toks := tk }) swo_none hoL (by rw [hal]; exact hz) (fun h3 => absurd h3 (by rw [hal]; omega)) fun out h1 hb => ⟨_, rfl, ?_⟩) (PyProof.Rows.args_list_sort _)))
    have hp := hb.perm
    have eo : out = acc.toList := by
      match hacl : acc.toList, hal with
      | [], _ =>
        rw [hacl] at hp
        exact List.perm_nil.mp hp
      | [v], _ =>
        rw [hacl] at hp
        exact List.perm_singleton.mp hp
      | _ :: _ :: _, hl => exact absurd hl (by simp; omega)
    have es : srtK (kvs.map (·.1)) = kvs.map (·.1) := by
      match kvs, h2 with
      | [], _ => rfl
      | [p], _ => rfl
      | _ :: _ :: _, h => exact absurd h (by simp)
    exact wpAny_pure ⟨_, rfl, fin out (by rw [eo]) (by rw [eo, es]; exact E0)⟩
  · have hne2 : ∀ p ∈ kvs, p.1 ≠ [] := hne.resolve_left h2
    have I2 : Inv X pins σ H { s with heap := h'.push (seqObj "list" acc.toList.toArray 0), toks := tk } := I1.kept (t' := tk) fun b ob e => Heap.get?_push_of_some _ e
    have rd : ∀ (v : Value) (ks : List Int), Tp H v ks → Reads (h'.push (seqObj "list" acc.toList.toArray 0)) v (encK ks) [] := fun v ks ⟨t, e1, e2⟩ => by
      subst e1
      obtain ⟨its, rv, ⟨ot, h3, h4, n, h5⟩, _⟩ := I2.tuple (show SqT X.K H t (ks.map V.int) from .inl (.inl e2))
      exact Reads.tuple h3 h4 h5 (reads0 rv)
    refine wpAny_bind (wpAny_holding (PySem.W.list_sort_data (enc := encK) (bs := kvs.map (·.1)) (R := Tp H) (s := { s with heap := h'.push (seqObj "list" acc.toList.toArray 0), toks := tk }) hoL E0 (E0.mono fun v ks h => ⟨[], rd v ks h, by simp⟩) (PySem.W.AllAlike.of fun b b' => ?_) ?_ (by rw [List.length_map]; exact hz) (fun b hb => ?_) fun out ho E => wpAny_pure ⟨_, rfl, ?_⟩))
    · show PySem.W.alike (.tuple _) (.tuple _) = true
      rw [PySem.W.alike]
      exact PySem.W.alike_ints _ _
    · refine .inl fun d hd => ?_
      obtain ⟨ks, hks, rfl⟩ := List.mem_map.mp hd
      obtain ⟨p, hp, rfl⟩ := List.mem_map.mp hks
      cases hp1 : p.1 with
      | nil => exact absurd hp1 (hne2 p hp)
      | cons x xs => exact ⟨.int x, xs.map .int, rfl⟩
    · show X.A.units + 1 + 1 + (encK b).depth < cLine
      have e : (encK b).depth = 1 := by
        unfold encK
        rw [PyData.depth, PySem.W.depth_ints]
      rw [e]
      omega
    · rw [dataLe_K, merge_srtK] at E
      exact fin out (by rw [ho, List.length_map, hal]) E
end
end
end DK
/-! GW0 -/
set_option Elab.async false
set_option linter.all false
set_option maxRecDepth 100000
set_option maxHeartbeats 1000000
/-! Trees in a generator's body: nothing is owned, and what is no list stays while it sleeps. -/
namespace DK
noncomputable section
open PySem PySem.Spec PyProof.Rows L2 GL
open SlX (Slt SlO slH putS Slot1 SIsi)

mutual
/-- no list within -/
def nl : D → Bool
  | .lst _ => false
  | .own _ => false
  | .ownO _ _ => false
  | .tup ds => nls ds
  | .obj _ ds => nls ds
  | _ => true
def nls : List D → Bool
  | [] => true
  | d :: ds => nl d && nls ds
end
theorem nls_get : ∀ {ds : List D} {i : Nat} {d : D}, nls ds = true → ds[i]? = some d → nl d = true
  | [], _, _, _, h => by simp at h
  | _ :: _, 0, _, hn, h => by
    simp only [nls, Bool.and_eq_true] at hn
    obtain rfl := Option.some.inj h
    exact hn.1
  | _ :: _, i + 1, _, hn, h => by
    simp only [nls, Bool.and_eq_true] at hn
    exact nls_get hn.2 (by simpa using h)
def noLst : HO → Option HO
  | .lst _ => none
  | o => some o
def strip (F : Hp) : Hp := fun b => (F b).bind noLst
theorem strip_of {F : Hp} {b : Addr} {o : HO} (h : F b = some o) (hn : ∀ xs, o ≠ .lst xs) : strip F b = some o := by
  unfold strip
  rw [h]
  show noLst o = some o
  unfold noLst
  split
  · next xs => exact absurd rfl (hn xs)
  · rfl
theorem strip_some {F : Hp} {b : Addr} {o : HO} (h : strip F b = some o) : F b = some o ∧ ∀ xs, o ≠ .lst xs := by
  unfold strip at h
  cases hF : F b with
  | none => rw [hF] at h; cases h
  | some o' =>
    rw [hF] at h
    have h : noLst o' = some o := h
    unfold noLst at h
    split at h
    · cases h
    · next hx =>
      obtain rfl := Option.some.inj h
      exact ⟨rfl, fun xs e => hx xs e⟩
mutual
theorem Rep.strip {K : PySem.W.Frag} {ct : Nat → Addr} {F : Hp} : ∀ {d : D} {v : V}, nl d = true → Rep K ct F v d → Rep K ct (strip F) v d
  | _, _, _, .non => .non
  | _, _, _, .bl b => .bl b
  | _, _, _, .int i => .int i
  | _, _, _, .str l => .str l
  | _, _, hn, .tup h r => .tup (strip_of h (fun _ q => by cases q)) (Reps.strip (by simpa [nl] using hn) r)
  | _, _, hn, .lst h r => by simp [nl] at hn
  | _, _, _, .dset h => .dset (strip_of h (fun _ q => by cases q))
  | _, _, _, .dct h => .dct (strip_of h (fun _ q => by cases q))
  | _, _, hn, .obj h r => .obj (by
      rcases h with ⟨h, w⟩ | ⟨h, w⟩
      · exact .inl ⟨strip_of h (fun _ q => by cases q), w⟩
      · exact .inr ⟨strip_of h (fun _ q => by unfold SlO at q; cases q), strip_of w (fun _ q => by cases q)⟩) (Reps.strip (by simpa [nl] using hn) r)
theorem Reps.strip {K : PySem.W.Frag} {ct : Nat → Addr} {F : Hp} : ∀ {d : List D} {v : List V}, nls d = true → Reps K ct F v d → Reps K ct (strip F) v d
  | _, _, _, .nil => .nil
  | _, _, hn, .cons r t => by
    simp only [nls, Bool.and_eq_true] at hn
    exact .cons (Rep.strip hn.1 r) (Reps.strip hn.2 t)
end
theorem mild_strip {F H H2 : Hp} {W : List Addr} (s : Same F H) (m : Mild W H H2) : Same (strip F) H2 := fun b o h => by
  obtain ⟨h1, h2⟩ := strip_some h
  exact m b o (s _ _ h1) fun xs e => absurd e (h2 xs)
/-- slots of trees, none of them owned -/
structure EN (K : PySem.W.Frag) (ct : Nat → Addr) (F H : Hp) (σ : L2.St) (env : En) : Prop where
  len : σ.length = env.length
  sub : Same F H
  ent : ∀ (i : Nat) (d : D), env[i]? = some d → d ≠ .unb → ∃ v, σ[i]? = some (some v) ∧ Rep K ct F v d
section
variable {K : PySem.W.Frag} {ct : Nat → Addr} {F H F' H' : Hp} {σ : L2.St} {env : En}
theorem EN.er (E : EN K ct F H σ env) : ER K ⟨ct, F, H, 0⟩ F H σ env := by
  have no : ∀ (i : Nat) (d : D), env[i]? = some d → d.isOwn = true → False := fun i d h ho => by
    obtain ⟨v, _, r⟩ := E.ent i d h (fun q => by subst q; cases ho)
    rw [rep_notOwn r] at ho
    cases ho
  exact ⟨E.len, .refl E.sub, fun i d h hu => let ⟨v, h1, h2⟩ := E.ent i d h hu; ⟨v, h1, .of h2⟩, fun i j d e l _ h1 _ h3 _ _ _ => (no i d h1 h3).elim⟩
theorem EN.grow (E : EN K ct F H σ env) (s : Same F F') (s2 : Same F' H') : EN K ct F' H' σ env := ⟨E.len, s2, fun i d h hu => let ⟨v, h1, h2⟩ := E.ent i d h hu; ⟨v, h1, h2.mono s⟩⟩
theorem EN.set (E : EN K ct F H σ env) (i : Nat) {v : V} {d : D} (r : Rep K ct F v d) : EN K ct F H (σ.set i (some v)) (env.set i d) := by
  refine ⟨by rw [List.length_set, List.length_set, E.len], E.sub, fun j e he hu => ?_⟩
  by_cases hj : i = j
  · subst hj
    have hlt : i < env.length := by
      have q := (List.getElem?_eq_some_iff.mp he).1
      rwa [List.length_set] at q
    rw [List.getElem?_set_self hlt] at he
    obtain rfl := Option.some.inj he
    exact ⟨v, List.getElem?_set_self (E.len ▸ hlt), r⟩
  · rw [List.getElem?_set_ne hj] at he
    rw [List.getElem?_set_ne hj]
    exact E.ent j e he hu
theorem EN.hide (E : EN K ct F H σ env) (i : Nat) (v : Option V) : EN K ct F H (σ.set i v) (env.set i .unb) := by
  refine ⟨by rw [List.length_set, List.length_set, E.len], E.sub, fun j e he hu => ?_⟩
  by_cases hj : i = j
  · subst hj
    have hlt : i < env.length := by
      have q := (List.getElem?_eq_some_iff.mp he).1
      rwa [List.length_set] at q
    rw [List.getElem?_set_self hlt] at he
    exact absurd (Option.some.inj he).symm hu
  · rw [List.getElem?_set_ne hj] at he
    rw [List.getElem?_set_ne hj]
    exact E.ent j e he hu
theorem EN.slept (E : EN K ct F H σ env) {W : List Addr} (m : Mild W H H') (hn : nls env = true) : EN K ct (DK.strip F) H' σ env :=
  ⟨E.len, mild_strip E.sub m, fun i d h hu => let ⟨v, h1, h2⟩ := E.ent i d h hu; ⟨v, h1, h2.strip (nls_get hn h)⟩⟩
end
/-! ### readings at any frame -/
def dU (K : PySem.W.Frag) (ct : Nat → Addr) (f : En → Option D) : TE := fun σ H Q => ∃ F0 H0, tD K ⟨ct, F0, H0, 0⟩ f σ H Q
def fU (K : PySem.W.Frag) (ct : Nat → Addr) (f : En → Option (List D)) : TE := fun σ H Q => ∃ F0 H0, tF K ⟨ct, F0, H0, 0⟩ f σ H Q
def qU (K : PySem.W.Frag) (ct : Nat → Addr) (f : En → Option Bool) : TT := fun σ H Q => ∃ F0 H0, tQ K ⟨ct, F0, H0, 0⟩ f σ H Q
theorem pe_dU {X : Cx} {ct : Nat → Addr} {e : Expr} {f : En → Option D} (h : ∀ F0 H0, PE X e (tD X.K ⟨ct, F0, H0, 0⟩ f)) : PE X e (dU X.K ct f) := ⟨fun pins s σ H Q I ⟨F0, H0, q⟩ => (h F0 H0).run pins s σ H Q I q⟩
theorem pe_fU {X : Cx} {ct : Nat → Addr} {e : Expr} {f : En → Option (List D)} (h : ∀ F0 H0, PE X e (tF X.K ⟨ct, F0, H0, 0⟩ f)) : PE X e (fU X.K ct f) := ⟨fun pins s σ H Q I ⟨F0, H0, q⟩ => (h F0 H0).run pins s σ H Q I q⟩
theorem pt_qU {X : Cx} {ct : Nat → Addr} {e : Expr} {f : En → Option Bool} (h : ∀ F0 H0, PT X e (tQ X.K ⟨ct, F0, H0, 0⟩ f)) : PT X e (qU X.K ct f) := ⟨fun pins s σ H Q I ⟨F0, H0, q⟩ => (h F0 H0).run pins s σ H Q I q⟩
section
variable {K : PySem.W.Frag} {ct : Nat → Addr} {F H : Hp} {σ : L2.St} {env : En}
theorem EN.d (E : EN K ct F H σ env) {f : En → Option D} {d : D} {Q : VK} (h : f env = some d) (k : ∀ F' H' v, Grow F H F' H' → Rep K ct F' v d → Q v H') : dU K ct f σ H Q := ⟨F, H, F, env, E.er, d, h, k⟩
theorem EN.f (E : EN K ct F H σ env) {f : En → Option (List D)} {ds : List D} {Q : VK} (h : f env = some ds) (k : ∀ F' H' p xs, Grow F H F' H' → H p = none → H' p = some (.lst xs) → F' p = none → Reps K ct F' xs ds → Q (.ref p) H') : fU K ct f σ H Q := ⟨F, H, F, env, E.er, ds, h, k⟩
theorem EN.q (E : EN K ct F H σ env) {f : En → Option Bool} {b : Bool} {Q : Bool → Hp → Prop} (h : f env = some b) (k : ∀ F' H', Grow F H F' H' → Q b H') : qU K ct f σ H Q := ⟨F, H, F, env, E.er, b, h, k⟩
end
/-- what stood before the call stays out of what the generator holds on to -/
structure Apt (F0 H0 F H : Hp) : Prop where
  keep : Same (DK.strip H0) H
  off : ∀ b o, DK.strip H0 b = some o → (∀ xs, o ≠ .tup xs) → F0 b = none → F b = none
section
variable {F0 H0 F H F' H' : Hp}
theorem Apt.grow (a : Apt F0 H0 F H) (g : Grow F H F' H') : Apt F0 H0 F' H' := ⟨a.keep.trans g.h, fun b o h t q => g.n b o (a.keep _ _ h) t (a.off b o h t q)⟩
theorem Apt.slept (a : Apt F0 H0 F H) {W : List Addr} (m : Mild W H H') : Apt F0 H0 (DK.strip F) H' := ⟨fun b o h => m b o (a.keep _ _ h) fun xs e => absurd e ((strip_some h).2 xs), fun b o h t q => by
  unfold DK.strip
  rw [a.off b o h t q]
  rfl⟩
theorem Apt.upd (a : Apt F0 H0 F H) {l : Addr} {xs : List V} {o : HO} (h : H l = some (.lst xs)) : Apt F0 H0 F (L2.upd H l o) := ⟨fun b u hb => by
  rw [upd_ne (fun e => by
    subst e
    have e := a.keep _ _ hb
    rw [h] at e
    exact (strip_some hb).2 xs (Option.some.inj e).symm)]
  exact a.keep _ _ hb, a.off⟩
theorem Apt.new (a : Apt F0 H0 F H) {l : Addr} {o : HO} (h : H l = none) : Apt F0 H0 F (L2.upd H l o) := ⟨a.keep.trans (same_upd h), a.off⟩
theorem strip_no {b : Addr} {xs : List V} : DK.strip F b ≠ some (.lst xs) := fun h => (strip_some h).2 xs rfl
/-- all that is no list, but what stood apart before the call -/
def cut (F0 H0 H : Hp) : Hp := fun b => match F0 b, DK.strip H0 b with
  | none, some (.tup _) => DK.strip H b
  | none, some _ => none
  | _, _ => DK.strip H b
theorem cut_some {b : Addr} {o : HO} (h : cut F0 H0 H b = some o) : DK.strip H b = some o := by
  unfold cut at h
  split at h <;> first | exact h | cases h
theorem cut_of {b : Addr} {o : HO} (h : DK.strip H b = some o) (n : ∀ u, DK.strip H0 b = some u → (∀ xs, u ≠ .tup xs) → F0 b ≠ none) : cut F0 H0 H b = some o := by
  unfold cut
  split
  · exact h
  · next u hx e1 e2 => exact absurd e1 (n _ e2 fun xs q => hx xs q)
  · exact h
theorem cut_apt (k : Same (DK.strip H0) H) : Apt F0 H0 (cut F0 H0 H) H := ⟨k, fun b o h t q => by
  unfold cut
  rw [q, h]
  split
  · next e => exact absurd (Option.some.inj e) (t _)
  · rfl
  · next e1 e2 => exact absurd rfl (e2 _ rfl)⟩
theorem Apt.sub (a : Apt F0 H0 F H) (s : Same F H) (n : ∀ b xs, F b ≠ some (.lst xs)) : Same F (cut F0 H0 H) := fun b o h => by
  refine cut_of (strip_of (s _ _ h) fun xs e => n b xs (by rw [h, e])) fun u hu t e => ?_
  rw [a.off b u hu t e] at h
  cases h
end
/-- what a generator promises: the trees that it yields -/
def spW (K : PySem.W.Frag) (ct : Nat → Addr) (fn : List D → Option (List D)) : SpW := fun vs H It n => ∃ F ds all, Same F H ∧ Reps K ct F vs ds ∧ fn ds = some all ∧ n = all.length ∧ nls all = true ∧ It = fun k x H1 => ∃ d F1, all[k]? = some d ∧ Rep K ct F1 x d ∧ Same F1 H1 ∧ Apt F H F1 H1 ∧ ∀ b xs, F1 b ≠ some (.lst xs)
end
end DK
/-! GW1 -/
set_option Elab.async false
set_option linter.all false
set_option maxRecDepth 100000
set_option maxHeartbeats 4000000
/-! ways: the generator's body. -/
namespace DK
noncomputable section
open PySem PySem.Spec PyProof.Rows L2 GL
open SlX (Slt SlO slH putS Slot1 SIsi)

theorem sc_ways : GScW ["slope", "waiting", "text", "rises", "steps"] ["slope"] (defScope (topS 32)) := ⟨rfl, rfl, rfl, by decide +kernel, rfl, by decide +kernel, by decide +kernel⟩
def f_ways1 : En → Option D := callD m_require_slope (aCons (vget 0) aNil)
def f_ways2 : En → Option (List D) := sml (aCons (asTup (sml (aCons (cst (.str [])) (aCons (u1 (fldD 0 1) (vget 0)) (aCons (u1 (fldD 0 2) (vget 0)) aNil))))) aNil)
def q_ways1 : En → Option Bool := tst (b2 eqD (b2 addD (vget 3) (vget 4)) (cst (.int 0)))
def y_ways : En → Option D := makeD 1 m_init_Way (aCons (vget 0) (aCons (vget 2) aNil))
def q_ways2 : En → Option Bool := tst (callD m_can_step (aCons (vget 0) (aCons (vget 3) (aCons (vget 4) aNil))))
def f_ways3 : En → Option D := asTup (sml (aCons (b2 addD (vget 2) (cst (.str [115]))) (aCons (vget 3) (aCons (b2 subD (vget 4) (cst (.int 1))) aNil))))
def q_ways3 : En → Option Bool := tst (b2 gtD (vget 3) (cst (.int 0)))
def f_ways4 : En → Option D := asTup (sml (aCons (b2 addD (vget 2) (cst (.str [114]))) (aCons (b2 subD (vget 3) (cst (.int 1))) (aCons (vget 4) aNil))))
def pushIf (q : En → Option Bool) (f : En → Option D) (env : En) (st : List D) : Option (List D) := bnd (q env) fun b => if b then bnd (f env) fun d => if nl d && st.length < 100000 then some (st ++ [d]) else none else some st
/-- one turn: the popped tuple, then what is yielded and what waits -/
def turnW (slope : D) (top : D) (st : List D) : Option (List D × List D) := match top with
  | .tup [t, r, s] => bnd (q_ways1 [slope, .unb, t, r, s]) fun b => bnd (if b then bnd (y_ways [slope, .unb, t, r, s]) fun w => if nl w then some [w] else none else some []) fun ys =>
      bnd (pushIf q_ways2 f_ways3 [slope, .unb, t, r, s] st) fun st => bnd (pushIf q_ways3 f_ways4 [slope, .unb, t, r, s] st) fun st => some (ys, st)
  | _ => none
def lpW (slope : D) : Nat → List D → Option (List D)
  | 0, _ => none
  | n + 1, st => bnd (bnd (neD (.lst st) (.lst [])) asB) fun b => if b then bnd st[st.length - 1]? fun top => bnd (turnW slope top st.dropLast) fun p => bnd (lpW slope n p.2) fun zs => some (p.1 ++ zs) else some []
def m_ways : List D → Option (List D)
  | [slope] => if nl slope then bnd (f_ways1 [slope, .unb, .unb, .unb, .unb]) fun _ => bnd (f_ways2 [slope, .unb, .unb, .unb, .unb]) fun st => if nls st then bnd (lpW slope 4000 st) fun all => if nls all then some all else none else none else none
  | _ => none

/-- the reading of the loop's turn -/
structure WS (K : PySem.W.Frag) (ct : Nat → Addr) (z0 : Hp × Hp) (wk : Wke) (σ : L2.St) (H : Hp) (env : En) (l : Addr) (st : List D) : Prop where
  ex : ∃ F xs, EN K ct F H σ env ∧ H l = some (.lst xs) ∧ F l = none ∧ Reps K ct F xs st ∧ Apt z0.1 z0.2 F H
  at_ : σ[1]? = some (some (.ref l))
  chg : Chg wk.W wk.H H
  own : ∀ b ∈ wk.W, b = l
  new : l ∈ wk.W ∨ wk.H l = none
  ne : nls env = true
  ns : nls st = true
section
variable {K : PySem.W.Frag} {ct : Nat → Addr}
theorem chg_grow {W : List Addr} {H0 H H' : Hp} (c : Chg W H0 H) (s : Same H H') : Chg W H0 H' := ⟨c.lists, fun b o h hb => s _ _ (c.same b o h hb), fun b hb => let ⟨xs, h⟩ := c.still b hb; ⟨xs, s _ _ h⟩⟩
theorem chg_upd {W : List Addr} {H0 H : Hp} {l : Addr} {ys : List V} (c : Chg W H0 H) (hn : l ∈ W ∨ H0 l = none) : Chg W H0 (upd H l (.lst ys)) := by
  refine ⟨c.lists, fun b o h hb => ?_, fun b hb => ?_⟩
  · have nb : b ≠ l := fun e => by
      subst e
      rcases hn with q | q
      · exact hb q
      · rw [q] at h
        cases h
    rw [upd_ne nb]
    exact c.same b o h hb
  · by_cases e : b = l
    · subst e
      exact ⟨ys, upd_same⟩
    · rw [upd_ne e]
      exact c.still b hb
/-- after an expression -/
theorem WS.grow {z0 : Hp × Hp} {wk : Wke} {σ : L2.St} {H H' : Hp} {env : En} {l : Addr} {st : List D} (w : WS K ct z0 wk σ H env l st) {F : Hp} {xs : List V} (E : EN K ct F H σ env) (hl : H l = some (.lst xs)) (hF : F l = none) (r : Reps K ct F xs st) (ap : Apt z0.1 z0.2 F H) {F' : Hp} (g : Grow F H F' H') : WS K ct z0 wk σ H' env l st ∧ EN K ct F' H' σ env ∧ H' l = some (.lst xs) ∧ F' l = none ∧ Reps K ct F' xs st ∧ Apt z0.1 z0.2 F' H' := by
  have a1 := g.h _ _ hl
  have a2 := g.n _ _ hl (fun _ z => by cases z) hF
  have a3 := E.grow g.f g.s
  have a4 := r.mono g.f
  exact ⟨⟨⟨F', xs, a3, a1, a2, a4, ap.grow g⟩, w.at_, chg_grow w.chg g.h, w.own, w.new, w.ne, w.ns⟩, a3, a1, a2, a4, ap.grow g⟩
theorem WS.put {z0 : Hp × Hp} {wk : Wke} {σ : L2.St} {H : Hp} {env : En} {l : Addr} {st : List D} (w : WS K ct z0 wk σ H env l st) {F : Hp} (E : EN K ct F H σ env) (hF : F l = none) {xs0 : List V} (hl : H l = some (.lst xs0)) (ap : Apt z0.1 z0.2 F H) {ys : List V} {st' : List D} (r : Reps K ct F ys st') (hn : nls st' = true) : WS K ct z0 wk σ (upd H l (.lst ys)) env l st' :=
  ⟨⟨F, ys, ⟨E.len, fun b o h => by
    rw [upd_ne (ne_of_none h hF)]
    exact E.sub _ _ h, E.ent⟩, upd_same, hF, r, ap.upd hl⟩, w.at_, chg_upd w.chg w.new, w.own, w.new, w.ne, hn⟩
theorem nls_append : ∀ {a b : List D}, nls a = true → nls b = true → nls (a ++ b) = true
  | [], _, _, h => h
  | d :: a, b, h1, h2 => by
    simp only [nls, Bool.and_eq_true] at h1
    simp only [List.cons_append, nls, Bool.and_eq_true]
    exact ⟨h1.1, nls_append h1.2 h2⟩
theorem nls_dropLast : ∀ {a : List D}, nls a = true → nls a.dropLast = true
  | [], _ => rfl
  | [_], _ => rfl
  | d :: e :: a, h => by
    simp only [nls, Bool.and_eq_true] at h
    have ih := nls_dropLast (a := e :: a) (by simp only [nls, Bool.and_eq_true]; exact h.2)
    show nls (d :: (e :: a).dropLast) = true
    simp only [nls, Bool.and_eq_true]
    exact ⟨h.1, ih⟩
theorem reps_dropLast {F : Hp} {xs : List V} {ds : List D} (r : Reps K ct F xs ds) : Reps K ct F xs.dropLast ds.dropLast := by
  rw [List.dropLast_eq_take, List.dropLast_eq_take, r.length]
  exact r.take _
end
/-- waiting.append(e) under a test -/
def tPush (K : PySem.W.Frag) (ct : Nat → Addr) (q : En → Option Bool) (f : En → Option D) : GL.TGn := GL.tGIf (qU K ct q) (tPlain (tDrop (tBM K "list" rAppend (tVar 1) (tCons (dU K ct f) tNil)))) tG0
theorem push_rd {K : PySem.W.Frag} {ct : Nat → Addr} {z0 : Hp × Hp} {q : En → Option Bool} {f : En → Option D} {J : GL.GEnds} {k : Nat} {wk : Wke} {σ : L2.St} {H : Hp} {env : En} {l : Addr} {st st' : List D} (w : WS K ct z0 wk σ H env l st) (h : pushIf q f env st = some st') (hn : ∀ H', WS K ct z0 wk σ H' env l st' → J.nx k wk σ H') : tPush K ct q f J k wk σ H := by
  obtain ⟨F, xs, E, hl, hF, r, ap⟩ := w.ex
  obtain ⟨b, h1, h⟩ := bnd_some h
  refine E.q h1 fun F1 H1 g1 => ?_
  obtain ⟨w1, E1, hl1, hF1, r1, ap1⟩ := w.grow E hl hF r ap g1
  cases b with
  | false =>
    obtain rfl := Option.some.inj h
    exact iteF (hn _ w1)
  | true =>
    obtain ⟨d, h2, h⟩ := bnd_some (x := f env) (k := fun d => if nl d && decide (st.length < 100000) then some (st ++ [d]) else none) h
    split at h
    rotate_left
    · cases h
    next hc =>
    obtain rfl := Option.some.inj h
    have hc := Bool.and_eq_true_iff.mp hc
    refine iteT ⟨.ref l, w.at_, .inl ⟨rfl, xs, .inl (.inl hl1)⟩, E1.d h2 fun F2 H2 v g2 rv => ?_⟩
    obtain ⟨w2, E2, hl2, hF2, r2, ap2⟩ := w1.grow E1 hl1 hF1 r1 ap1 g2
    refine ⟨l, xs, v, rfl, rfl, hl2, ?_, hn _ (w2.put E2 hF2 hl2 ap2 (r2.append (.cons rv .nil)) (nls_append w.ns (by simp only [nls, Bool.and_eq_true]; exact ⟨hc.1, trivial⟩)))⟩
    rw [r.length]
    exact Nat.lt_of_lt_of_le (of_decide_eq_true hc.2) (by decide)

/-- text, rises, steps = waiting.pop() -/
def tPop (K : PySem.W.Frag) : TS := tAsg (tBM0 K "list" rPop (tVar 1)) (gTup K 3 (gNames [2, 3, 4]))
theorem reps3 {K : PySem.W.Frag} {ct : Nat → Addr} {F : Hp} {xs : List V} {a b c : D} (r : Reps K ct F xs [a, b, c]) : ∃ u v w, xs = [u, v, w] ∧ Rep K ct F u a ∧ Rep K ct F v b ∧ Rep K ct F w c := by
  cases r with
  | cons r1 r =>
    cases r with
    | cons r2 r =>
      cases r with
      | cons r3 r =>
        cases r
        exact ⟨_, _, _, rfl, r1, r2, r3⟩
theorem pop_rd {K : PySem.W.Frag} {ct : Nat → Addr} {z0 : Hp × Hp} {J : GL.GEnds} {k : Nat} {wk : Wke} {σ : L2.St} {H : Hp} {slope x2 x3 x4 t r s : D} {l : Addr} {st : List D} (w : WS K ct z0 wk σ H [slope, .unb, x2, x3, x4] l st) (hs : nl slope = true) (h : st[st.length - 1]? = some (.tup [t, r, s])) (hn : ∀ σ' H', WS K ct z0 wk σ' H' [slope, .unb, t, r, s] l st.dropLast → J.nx k wk σ' H') : GL.tPlain (tPop K) J k wk σ H := by
  obtain ⟨F, xs, E, hl, hF, rs, ap⟩ := w.ex
  obtain ⟨y, h1, h2⟩ := rs.get h
  cases h2 with
  | @tup ad ws _ h3 h4 =>
  obtain ⟨u1, u2, u3, rfl, r1, r2, r3⟩ := reps3 h4
  rw [← rs.length] at h1
  refine ⟨.ref l, w.at_, .inl ⟨rfl, xs, .inl (.inl hl)⟩, l, xs, _, rfl, rfl, hl, h1, ad, [u1, u2, u3], rfl, .inl (.inl ?_), rfl, gNames_set rfl ?_⟩
  · rw [upd_ne (ne_of (E.sub _ _ h3) hl (by intro q; cases q))]
    exact E.sub _ _ h3
  · have nst := nls_get w.ns h
    simp only [nl, nls, Bool.and_eq_true] at nst
    have w2 := w.put E hF hl ap (reps_dropLast rs) (nls_dropLast w.ns)
    have E3 : EN K ct F (upd H l (.lst xs.dropLast)) σ [slope, .unb, x2, x3, x4] := ⟨E.len, fun b o hb => by
      rw [upd_ne (ne_of_none hb hF)]
      exact E.sub _ _ hb, E.ent⟩
    refine hn _ _ ⟨⟨F, xs.dropLast, ((E3.set 2 r1).set 3 r2).set 4 r3, upd_same, hF, reps_dropLast rs, ap.upd hl⟩, ?_, w2.chg, w.own, w.new, ?_, nls_dropLast w.ns⟩
    · show (((σ.set 2 _).set 3 _).set 4 _)[1]? = _
      rw [List.getElem?_set_ne (by decide), List.getElem?_set_ne (by decide), List.getElem?_set_ne (by decide)]
      exact w.at_
    · simp only [nls, nl, Bool.and_eq_true]
      exact ⟨hs, trivial, nst.1, nst.2.1, nst.2.2.1, trivial⟩
/-- if ..: yield Way(slope, text) -/
def tYieldIf (K : PySem.W.Frag) (ct : Nat → Addr) (It : Nat → V → Hp → Prop) (n : Nat) (q : En → Option Bool) (f : En → Option D) : GL.TGn := GL.tGIf (qU K ct q) (GL.tGYield It n (dU K ct f)) GL.tG0
theorem yield_rd {K : PySem.W.Frag} {ct : Nat → Addr} {z0 : Hp × Hp} {It : Nat → V → Hp → Prop} {n : Nat} {q : En → Option Bool} {f : En → Option D} {J : GL.GEnds} {k : Nat} {wk : Wke} {σ : L2.St} {H : Hp} {env : En} {l : Addr} {st ys rest all : List D} (w : WS K ct z0 wk σ H env l st) (hn : n = all.length) (hIt : It = fun k x H1 => ∃ d F1, all[k]? = some d ∧ Rep K ct F1 x d ∧ Same F1 H1 ∧ Apt z0.1 z0.2 F1 H1 ∧ ∀ b xs, F1 b ≠ some (.lst xs)) (ha0 : nls all = true)
    (h : (bnd (q env) fun b => bnd (if b then bnd (f env) fun w => if nl w then some [w] else none else some []) fun ys => some ys) = some ys) (ha : all.drop k = ys ++ rest)
    (hk : ∀ wk' H', WS K ct z0 wk' σ H' env l st → all.drop (k + ys.length) = rest → J.nx (k + ys.length) wk' σ H') : tYieldIf K ct It n q f J k wk σ H := by
  obtain ⟨F, xs, E, hl, hF, rs, ap⟩ := w.ex
  obtain ⟨b, h1, h⟩ := bnd_some h
  obtain ⟨ys', h2, h⟩ := bnd_some h
  obtain rfl := Option.some.inj h
  refine E.q h1 fun F1 H1 g1 => ?_
  obtain ⟨w1, E1, hl1, hF1, r1, ap1⟩ := w.grow E hl hF rs ap g1
  cases b with
  | false =>
    obtain rfl := Option.some.inj h2
    exact iteF (hk wk H1 w1 (by simpa using ha))
  | true =>
    obtain ⟨d, h3, h2⟩ := bnd_some (x := f env) (k := fun w => if nl w then some [w] else none) h2
    split at h2
    rotate_left
    · cases h2
    next hnl =>
    obtain rfl := Option.some.inj h2
    have hat : all[k]? = some d := by
      have e := congrArg (·[0]?) ha
      simpa using e
    have hlt : k < all.length := (List.getElem?_eq_some_iff.mp hat).1
    refine iteT (E1.d h3 fun F2 H2 v g2 rv => ?_)
    obtain ⟨w2, E2, hl2, hF2, r2, ap2⟩ := w1.grow E1 hl1 hF1 r1 ap1 g2
    refine ⟨by rw [hn]; exact hlt, by rw [hIt]; exact ⟨d, DK.strip F2, hat, rv.strip (nls_get ha0 hat), fun b o h => E2.sub _ _ (strip_some h).1, ap2.slept (W := []) (fun b o h _ => h), fun b xs => strip_no⟩, w2.chg, [l], fun b hb => ?_, fun H3 m => ?_⟩
    · obtain rfl := List.mem_singleton.mp hb
      exact ⟨w2.new, xs, hl2⟩
    · have hl3 : H3 l = some (.lst xs) := m l _ hl2 fun _ _ => List.mem_singleton.mpr rfl
      have hF3 : DK.strip F2 l = none := by
        unfold DK.strip
        rw [hF2]
        rfl
      refine hk ⟨[l], H3⟩ H3 ⟨⟨DK.strip F2, xs, E2.slept m w2.ne, hl3, hF3, r2.strip w2.ns, ap2.slept m⟩, w2.at_, ⟨fun b hb => ⟨xs, by rw [List.mem_singleton.mp hb]; exact hl3⟩, fun b o h _ => h, fun b hb => ⟨xs, by rw [List.mem_singleton.mp hb]; exact hl3⟩⟩, fun b hb => List.mem_singleton.mp hb, .inl (List.mem_singleton.mpr rfl), w2.ne, w2.ns⟩ ?_
      have e := congrArg (List.drop 1) ha
      rw [List.drop_drop] at e
      simpa using e

theorem gss1 {d : GD} {It : Nat → V → Hp → Prop} {n : Nat} {st : Stmt} {t : GL.TGn} (a : GL.GS d It n st t) : GL.GSs d It n [st] t := GL.gss_one a
theorem ne_rd {K : PySem.W.Frag} {z : Zc} : OpD K z (rNeD K) neD := fun F H x y p q d Q s hd r1 r2 k => by
  unfold neD at hd
  split at hd
  · next hh =>
    obtain rfl := Option.some.inj hd
    have hh := Bool.and_eq_true_iff.mp hh
    have w1 := dOk_canLay 4 p hh.1
    have w2 := dOk_canLay 4 q hh.2
    refine ⟨toPy p, toPy q, rep_dp s 4 p x hh.1 r1, rep_dp s 4 q y hh.2 r2, Bool.and_eq_true_iff.mpr ⟨w1.1, decide_eq_true (Nat.le_trans w1.2 (by decide))⟩, Bool.and_eq_true_iff.mpr ⟨w2.1, decide_eq_true (Nat.le_trans w2.2 (by decide))⟩, ?_⟩
    rw [eqB_eqv 4 4 p q hh.1 hh.2]
    exact k F H _ (.refl s) (.bl _)
  · cases hd
theorem ok_ways {P : Program} {w : World} {K : PySem.W.Frag} {mg : Str → Option Value} {base : Heap} {ct : Nat → Addr} {f : Addr} {fd : FuncData} (F : Fun K "ways" "ways" (topS 32) f fd) (B : Bt mg) (C : Cf K mg ct) (c_require_slope : Cal P w K mg base ct 1 "require_slope" m_require_slope) (c_can_step : Cal P w K mg base ct 1 "can_step" m_can_step) (c_Way : Mak P w K mg base ct 4 "Way" 1 m_init_Way) :
    GFnW P w K mg base 7 f fd ["slope"] (spW K ct m_ways) := by
  have S := sc_ways
  obtain ⟨oc, od, kV, doc, pm, an, cdv, cct, osl, rfl, lk, hcd⟩ := F.ex
  refine gfnw_of (k := 6) lk hcd S (fun vs H It n ⟨F, ds, all, _, r, hd, _⟩ => ?_) (fun L A outer H0 vs It n hr ⟨F, ds, all, s, r, hd, hn, hnl, hIt⟩ ok => ?_)
  · unfold m_ways at hd
    split at hd
    · rw [r.length]
      rfl
    · cases hd
  unfold m_ways at hd
  split at hd
  rotate_left
  · cases hd
  next slope =>
  split at hd
  rotate_left
  · cases hd
  next hsl =>
  obtain ⟨d1, h1, hd⟩ := bnd_some hd
  obtain ⟨st0, h2, hd⟩ := bnd_some hd
  split at hd
  rotate_left
  · cases hd
  next hst0 =>
  obtain ⟨all', h3, hd⟩ := bnd_some hd
  split at hd
  rotate_left
  · cases hd
  obtain rfl := Option.some.inj hd
  let dd := mkD P w K mg base ["slope", "waiting", "text", "rises", "steps"] "ways" (defScope (topS 32)) L f cdv A outer
  refine ⟨GL.tGThen (GL.tPlain (tDrop (dU K ct f_ways1))) (GL.tGThen (GL.tPlain (tAsg (fU K ct f_ways2) (gName 1))) (GL.tGThen (GL.tGWhile (tTest (tOp (rNeD K) (tVar 1) (dU K ct (asLst (sml aNil))))) (GL.tGThen (GL.tPlain (tPop K)) (GL.tGThen (tYieldIf K ct It n q_ways1 y_ways) (GL.tGThen (tPush K ct q_ways2 f_ways3) (GL.tGThen (tPush K ct q_ways3 f_ways4) GL.tG0))))) GL.tG0)), ?_, fun H2 m => ?_⟩
  · refine GL.gss_cons (d := dd) (It := It) (n := n) ?_ (GL.gss_cons ?_ (GL.gss_one ?_))
    · exact GL.gs_ps fun s0 H0 => ps_expr (pe_dU (f := f_ways1) fun F0 H0 => d_call c_require_slope (hr.mono (by decide)) (a_cons (d_var 0 (pv 0)) a_nil))
    · exact GL.gs_ps fun s0 H0 => ps_set (i := 1) S.nd rfl (Or.inl rfl) (pe_fU (f := f_ways2) fun F0 H0 => f_lst (a_cons (d_tup (a_cons (d_str [] (by decide +kernel)) (a_cons (d_fldE C.kSlope C.own_rises (d_var 0 (pv 0))) (a_cons (d_fldE C.kSlope C.own_steps (d_var 0 (pv 0))) a_nil)))) a_nil))
    · refine GL.gs_while (d := dd) (fun s0 H0 => pt_cmpR (op_neD hr.units) (pv 1) (pe_dU (f := asLst (sml aNil)) fun F0 H0 => d_ofF (f_lst a_nil)) (nomark _)) (GL.gss_cons ?_ (GL.gss_cons ?_ (GL.gss_cons ?_ (GL.gss_one ?_))))
      · exact GL.gs_ps fun s0 H0 => ps_asg (pe_bm0 PySem.F.plainAttrs_list PySem.F.slot_list_pop PySem.F.type_list_pop mt_pop (pv 1)) (pg_tup rfl (pgs_cons (pg_name (i := 2) S.nd rfl (Or.inl rfl)) (pgs_cons (pg_name (i := 3) S.nd rfl (Or.inl rfl)) (pgs_cons (pg_name (i := 4) S.nd rfl (Or.inl rfl)) pgs_nil))))
      · exact GL.gs_if (fun s0 H0 => pt_qU (f := q_ways1) fun F0 H0 => t_cmp (op_eqD hr.units) op_eqE (d_add (d_var 3 (pv 3)) (d_var 4 (pv 4))) d_int (nomark _)) (gss1 (GL.gs_yield ok fun s0 H0 => pe_dU (f := y_ways) fun F0 H0 => d_make c_Way (hr.mono (by decide)) (a_cons (d_var 0 (pv 0)) (a_cons (d_var 2 (pv 2)) a_nil)))) GL.gss_nil
      · exact GL.gs_if (fun s0 H0 => pt_qU (f := q_ways2) fun F0 H0 => t_val (d_call c_can_step (hr.mono (by decide)) (a_cons (d_var 0 (pv 0)) (a_cons (d_var 3 (pv 3)) (a_cons (d_var 4 (pv 4)) a_nil))))) (gss1 (GL.gs_ps fun s0 H0 => ps_expr (pe_bm PySem.F.plainAttrs_list PySem.F.slot_list_append PySem.F.type_list_append mt_append (pv 1) (pa_cons (pe_dU (f := f_ways3) fun F0 H0 => d_tup (a_cons (d_add (d_var 2 (pv 2)) (d_globSE [115] B.step)) (a_cons (d_var 3 (pv 3)) (a_cons (d_sub (d_var 4 (pv 4)) d_int) a_nil)))) pa_nil)))) GL.gss_nil
      · exact GL.gs_if (fun s0 H0 => pt_qU (f := q_ways3) fun F0 H0 => t_cmp op_gt op_gtD (d_var 3 (pv 3)) d_int (nomark _)) (gss1 (GL.gs_ps fun s0 H0 => ps_expr (pe_bm PySem.F.plainAttrs_list PySem.F.slot_list_append PySem.F.type_list_append mt_append (pv 1) (pa_cons (pe_dU (f := f_ways4) fun F0 H0 => d_tup (a_cons (d_add (d_var 2 (pv 2)) (d_globSE [114] B.rise)) (a_cons (d_sub (d_var 3 (pv 3)) d_int) (a_cons (d_var 4 (pv 4)) a_nil)))) pa_nil)))) GL.gss_nil
  · cases r with
    | @cons v0 _ _ _ r0 rr =>
      cases rr
      have E0 : EN K ct (DK.strip F) H2 (L2.start ["slope", "waiting", "text", "rises", "steps"] [v0]) [slope, .unb, .unb, .unb, .unb] := by
        refine ⟨rfl, mild_strip s m, fun i d hd hu => ?_⟩
        match i, hd with
        | 0, hd =>
          obtain rfl := Option.some.inj hd
          exact ⟨v0, rfl, r0.strip hsl⟩
        | 1, hd => exact absurd (Option.some.inj hd).symm hu
        | 2, hd => exact absurd (Option.some.inj hd).symm hu
        | 3, hd => exact absurd (Option.some.inj hd).symm hu
        | 4, hd => exact absurd (Option.some.inj hd).symm hu
        | i + 5, hd => simp at hd
      have apt0 : Apt F H0 (DK.strip F) H2 := ⟨fun b o h => m b o (strip_some h).1 fun xs e => absurd e ((strip_some h).2 xs), fun b o h t q => by
        unfold DK.strip
        rw [q]
        rfl⟩
      refine E0.d h1 fun F1 H1 v1 g1 rv1 => ?_
      refine (E0.grow g1.f g1.s).f h2 fun F3 H3 p xs g3 np hp nf r3 => ?_
      refine ⟨fun j k wk σ H => ∃ x2 x3 x4 l st, WS K ct (F, H0) wk σ H [slope, .unb, x2, x3, x4] l st ∧ lpW slope j st = some (all'.drop k) ∧ k ≤ all'.length, ⟨4000, .unb, .unb, .unb, p, st0, ?_, h3, Nat.zero_le _⟩, fun j k wk σ H ⟨x2, x3, x4, l, st, w, hl, hle⟩ => ?_⟩
      · have g := g1.trans g3
        refine ⟨⟨F3, xs, (E0.grow g.f g.s).hide 1 _, hp, nf, r3, apt0.grow g⟩, rfl, ⟨fun b hb => (by cases hb), fun b o h _ => g.h _ _ h, fun b hb => (by cases hb)⟩, fun b hb => (by cases hb), .inr (g1.h.free np), ?_, hst0⟩
        simp only [nls, nl, Bool.and_eq_true]
        exact ⟨hsl, trivial, trivial, trivial, trivial, trivial⟩
      · cases j with
        | zero => cases hl
        | succ j =>
          obtain ⟨b, hb, hl⟩ := bnd_some hl
          obtain ⟨d, hne, hb⟩ := bnd_some hb
          have ed : d = .bl b := by
            cases d <;> first | (cases hb; done) | skip
            obtain rfl := Option.some.inj hb
            rfl
          subst ed
          obtain ⟨F4, xs4, E4, hx4, hF4, rs4, ap4⟩ := w.ex
          refine ⟨.ref l, w.at_, E4.d (f := asLst (sml aNil)) (d := .lst []) rfl fun F5 H5 v5 g5 rv5 => ?_⟩
          obtain ⟨w5, E5, hx5, hF5, rs5, ap5⟩ := w.grow E4 hx4 hF4 rs4 ap4 g5
          have sl : Same F5 (upd F5 l (.lst xs4)) := same_upd hF5
          have sH : Same (upd F5 l (.lst xs4)) H5 := fun b o hq => by
            by_cases hbl : b = l
            · subst hbl
              rw [upd_same] at hq
              rw [hx5]
              exact hq
            · rw [upd_ne hbl] at hq
              exact E5.sub _ _ hq
          refine ne_rd (z := ⟨ct, F5, H5, 0⟩) (upd F5 l (.lst xs4)) H5 (.ref l) v5 (.lst st) (.lst []) (.bl b) _ sH hne (.lst upd_same (rs5.mono sl)) (rv5.mono sl) fun F6 H6 v6 g6 rv6 => ?_
          refine ⟨b, rep_bl rv6, ?_⟩
          have g56 : Grow F5 H5 F5 H6 := ⟨.refl _, g6.h, E5.sub.trans g6.h, fun _ _ _ _ q => q⟩
          obtain ⟨w6, E6, hx6, hF6, rs6, ap6⟩ := w5.grow E5 hx5 hF5 rs5 ap5 g56
          cases b with
          | false =>
            have hl := Option.some.inj hl
            refine iteF ⟨?_, w6.chg⟩
            have e := congrArg List.length hl
            rw [List.length_drop] at e
            have e : 0 = all'.length - k := e
            rw [hn]
            exact Nat.le_antisymm hle (Nat.le_of_sub_eq_zero e.symm)
          | true =>
            have hl : (bnd st[st.length - 1]? fun top => bnd (turnW slope top st.dropLast) fun p => bnd (lpW slope j p.2) fun zs => some (p.1 ++ zs)) = some (all'.drop k) := hl
            obtain ⟨top, ht, hl⟩ := bnd_some hl
            obtain ⟨p2, hp2, hl⟩ := bnd_some hl
            obtain ⟨zs, hzs, hl⟩ := bnd_some hl
            have hl := Option.some.inj hl
            unfold turnW at hp2
            split at hp2
            rotate_left
            · cases hp2
            next t r s =>
            obtain ⟨b1, hb1, hp2⟩ := bnd_some hp2
            obtain ⟨ys, hys, hp2⟩ := bnd_some hp2
            obtain ⟨st1, hst1, hp2⟩ := bnd_some hp2
            obtain ⟨st2, hst2, hp2⟩ := bnd_some hp2
            obtain rfl := Option.some.inj hp2
            refine iteT ⟨fun k' wk' σ' H' => ∃ x2 x3 x4 l st, WS K ct (F, H0) wk' σ' H' [slope, .unb, x2, x3, x4] l st ∧ lpW slope j st = some (all'.drop k') ∧ k' ≤ all'.length, fun k' wk' σ' H' q => ⟨j, Nat.lt_succ_self j, q⟩, ?_⟩
            refine pop_rd (J := _) w6 hsl ht fun σ7 H7 w7 => ?_
            have hle2 : k + ys.length ≤ all'.length := by
              have hl : ys ++ zs = all'.drop k := hl
              have e := congrArg List.length hl
              rw [List.length_drop, List.length_append] at e
              omega
            refine yield_rd w7 hn hIt hnl (ys := ys) (rest := zs) ?_ hl.symm fun wk8 H8 w8 hdrop => ?_
            · show (bnd (q_ways1 _) fun b => bnd _ fun ys => some ys) = some ys
              rw [hb1]
              show (bnd _ fun ys => some ys) = some ys
              rw [hys]
              rfl
            · refine push_rd w8 hst1 fun H9 w9 => push_rd w9 hst2 fun H10 w10 => ?_
              exact ⟨t, r, s, _, _, w10, by rw [hzs, hdrop], hle2⟩
end
end DK
/-! GW2 -/
set_option Elab.async false
set_option linter.all false
set_option maxRecDepth 100000
set_option maxHeartbeats 4000000
/-! shelves: the generator's body. -/
namespace DK
noncomputable section
open PySem PySem.Spec PyProof.Rows L2 GL
open SlX (Slt SlO slH putS Slot1 SIsi)

theorem sc_shelves : GScW ["slope", "layer", "gaps"] ["slope"] (defScope (topS 46)) := ⟨rfl, rfl, rfl, by decide +kernel, rfl, by decide +kernel, by decide +kernel⟩
def kT (ks : List Int) : D := .tup (ks.map .int)
def f_shelves1 : En → Option D := callD m_require_slope (aCons (vget 0) aNil)
def f_shelves2 : En → Option D := callD m_require_coprime (aCons (vget 0) aNil)
def f_shelves3 : En → Option D := callD m_require_listed (aCons (vget 0) aNil)
def y_shelves : En → Option D := makeD 2 m_init_Shelf (aCons (vget 0) (aCons (vget 2) aNil))
def f_shelves4 : En → Option D := callD m_grown_from (aCons (vget 0) (aCons (vget 1) aNil))
def yldS (slope layer : D) : List (List Int) → Option (List D)
  | [] => some []
  | ks :: r => bnd (y_shelves [slope, layer, kT ks]) fun d => if nl d then bnd (yldS slope layer r) fun ds => some (d :: ds) else none
def okKs (kvs : List (List Int × Int)) : Bool := decide (kvs.length ≤ 1) || kvs.all fun p => !p.1.isEmpty
def asDct : D → Option (List (List Int × Int))
  | .dct kvs => some kvs
  | _ => none
def lpS (slope : D) : Nat → D → List (List Int × Int) → Option (List D)
  | 0, _, _ => none
  | n + 1, x, kvs => if kvs.isEmpty then some [] else if nl x && okKs kvs then bnd (yldS slope (.dct kvs) (srtK (kvs.map (·.1)))) fun ys => bnd (f_shelves4 [slope, .dct kvs, .unb]) fun l => bnd (asDct l) fun kvs' => bnd (lpS slope n .unb kvs') fun zs => some (ys ++ zs) else none
def m_shelves : List D → Option (List D)
  | [slope] => if nl slope then bnd (f_shelves1 [slope, .unb, .unb]) fun _ => bnd (f_shelves2 [slope, .unb, .unb]) fun _ => bnd (f_shelves3 [slope, .unb, .unb]) fun _ => bnd (lpS slope 80 .unb [([], 1)]) fun all => if nls all then some all else none else none
  | _ => none
section
variable {K : PySem.W.Frag} {ct : Nat → Addr}
/-- whatever is no list is kept -/
theorem EN.whole {F0 H0 F H : Hp} {σ : L2.St} {env : En} (E : EN K ct F H σ env) (ap : Apt F0 H0 F H) (hn : nls env = true) : EN K ct (cut F0 H0 H) H σ env :=
  (E.slept (W := []) (H' := H) (fun b o h _ => h) hn).grow ((ap.slept (W := []) (fun b o h _ => h)).sub (fun b o h => E.sub _ _ (strip_some h).1) fun b xs => strip_no) fun b o h => (strip_some (cut_some h)).1
theorem EN.whole' {F0 H0 F H H' : Hp} {W : List Addr} {σ : L2.St} {env : En} (E : EN K ct F H σ env) (ap : Apt F0 H0 F H) (m : Mild W H H') (hn : nls env = true) : EN K ct (cut F0 H0 H') H' σ env :=
  (E.slept m hn).grow ((ap.slept m).sub (E.slept m hn).sub fun b xs => strip_no) fun b o h => (strip_some (cut_some h)).1
theorem cut_new {F0 H0 H : Hp} {p : Addr} {o : HO} (k : Same (DK.strip H0) H) (h : H p = none) (hn : ∀ xs, o ≠ .lst xs) : cut F0 H0 (upd H p o) p = some o := cut_of (strip_of upd_same hn) fun u hu => by
  have e := k _ _ hu
  rw [h] at e
  cases e
theorem cut_mild {F0 H0 H H' : Hp} {W : List Addr} (k : Same (DK.strip H0) H) (m : Mild W H H') : Same (cut F0 H0 H) (cut F0 H0 H') := fun b o h => by
  have q := strip_some (cut_some h)
  refine cut_of (strip_of (m b o q.1 fun xs e => absurd e (q.2 xs)) q.2) fun u hu t e => ?_
  rw [(cut_apt k).off b u hu t e] at h
  cases h
theorem keep_mild {H0 H H' : Hp} {W : List Addr} (k : Same (DK.strip H0) H) (m : Mild W H H') : Same (DK.strip H0) H' := fun b o h => m b o (k _ _ h) fun xs e => absurd e ((strip_some h).2 xs)
theorem chg_free {W : List Addr} {H0 H : Hp} {p : Addr} (c : Chg W H0 H) (h : H p = none) : H0 p = none := by
  cases h0 : H0 p with
  | none => rfl
  | some o =>
    by_cases hp : p ∈ W
    · obtain ⟨xs, e⟩ := c.still p hp
      rw [h] at e
      cases e
    · have e := c.same p o h0 hp
      rw [h] at e
      cases e
end
/-- between two turns of the outer loop -/
structure WL (K : PySem.W.Frag) (ct : Nat → Addr) (z0 : Hp × Hp) (wk : Wke) (σ : L2.St) (H : Hp) (env : En) : Prop where
  en : EN K ct (cut z0.1 z0.2 H) H σ env
  keep : Same (DK.strip z0.2) H
  chg : Chg wk.W wk.H H
  ne : nls env = true
theorem WL.grow {K : PySem.W.Frag} {ct : Nat → Addr} {z0 : Hp × Hp} {wk : Wke} {σ : L2.St} {H F' H' : Hp} {env : En} (w : WL K ct z0 wk σ H env) (g : Grow (cut z0.1 z0.2 H) H F' H') : WL K ct z0 wk σ H' env :=
  ⟨(w.en.grow g.f g.s).whole ((cut_apt w.keep).grow g) w.ne, w.keep.trans g.h, chg_grow w.chg g.h, w.ne⟩
/-- one shelf of the sorted layer: the list at b is walked -/
structure WI (K : PySem.W.Frag) (ct : Nat → Addr) (z0 : Hp × Hp) (wk : Wke) (σ : L2.St) (H : Hp) (env : En) (b : Addr) (xs : List V) (kss : List (List Int)) : Prop extends WL K ct z0 wk σ H env where
  at_ : H b = some (.lst xs)
  new : b ∈ wk.W ∨ wk.H b = none
  key : ∀ (i : Nat) (ks : List Int), kss[i]? = some ks → ∃ q, xs[i]? = some (.ref q) ∧ cut z0.1 z0.2 H q = some (.tup (ks.map V.int))
theorem nls_ints : ∀ ks : List Int, nls (ks.map D.int) = true
  | [] => rfl
  | k :: ks => by
    simp only [List.map_cons, nls, nl, Bool.true_and]
    exact nls_ints ks
theorem rep_keys {K : PySem.W.Frag} {ct : Nat → Addr} {F : Hp} : ∀ ks : List Int, Reps K ct F (ks.map V.int) (ks.map D.int)
  | [] => .nil
  | k :: ks => .cons (.int k) (rep_keys ks)
theorem okKs_or {kvs : List (List Int × Int)} (h : okKs kvs = true) : kvs.length ≤ 1 ∨ ∀ p ∈ kvs, p.1 ≠ [] := by
  rcases (Bool.or_eq_true _ _).mp h with q | q
  · exact .inl (of_decide_eq_true q)
  · refine .inr fun p hp e => ?_
    have q := List.all_eq_true.mp q p hp
    rw [e] at q
    cases q
theorem same_updF {H H' : Hp} {p : Addr} {o : HO} (s : Same H H') (h : H p = none) : Same H (upd H' p o) := fun b u e => by
  rw [upd_ne (ne_of_none e h)]
  exact s _ _ e
theorem yldS_cons {slope layer d : D} {ks : List Int} {r : List (List Int)} {ys : List D} (h : yldS slope layer (ks :: r) = some ys) : ∃ d zs, y_shelves [slope, layer, kT ks] = some d ∧ nl d = true ∧ yldS slope layer r = some zs ∧ ys = d :: zs := by
  obtain ⟨d, h1, h⟩ := bnd_some h
  split at h
  · next hn =>
    obtain ⟨zs, h2, h⟩ := bnd_some h
    exact ⟨d, zs, h1, hn, h2, (Option.some.inj h).symm⟩
  · cases h
theorem ok_shelves {P : Program} {w : World} {K : PySem.W.Frag} {mg : Str → Option Value} {base : Heap} {ct : Nat → Addr} {f : Addr} {fd : FuncData} (F : Fun K "shelves" "shelves" (topS 46) f fd) (B : Bt mg) (C : Cf K mg ct) (c_require_slope : Cal P w K mg base ct 1 "require_slope" m_require_slope) (c_require_coprime : Cal P w K mg base ct 1 "require_coprime" m_require_coprime) (c_require_listed : Cal P w K mg base ct 2 "require_listed" m_require_listed) (c_Shelf : Mak P w K mg base ct 4 "Shelf" 2 m_init_Shelf) (c_grown_from : Cal P w K mg base ct 6 "grown_from" m_grown_from) :
    GFnW P w K mg base 7 f fd ["slope"] (spW K ct m_shelves) := by
  have S := sc_shelves
  obtain ⟨oc, od, kV, doc, pm, an, cdv, cct, osl, rfl, lk, hcd⟩ := F.ex
  refine gfnw_of (k := 6) lk hcd S (fun vs H It n ⟨F, ds, all, _, r, hd, _⟩ => ?_) (fun L A outer Hs vs It n hr ⟨F, ds, all, s, r, hd, hn, hnl, hIt⟩ ok => ?_)
  · unfold m_shelves at hd
    split at hd
    · rw [r.length]
      rfl
    · cases hd
  unfold m_shelves at hd
  split at hd
  rotate_left
  · cases hd
  next slope =>
  split at hd
  rotate_left
  · cases hd
  next hsl =>
  obtain ⟨d1, h1, hd⟩ := bnd_some hd
  obtain ⟨d2, h2, hd⟩ := bnd_some hd
  obtain ⟨d3, h3, hd⟩ := bnd_some hd
  obtain ⟨all', h4, hd⟩ := bnd_some hd
  split at hd
  rotate_left
  · cases hd
  obtain rfl := Option.some.inj hd
  let dd := mkD P w K mg base ["slope", "layer", "gaps"] "shelves" (defScope (topS 46)) L f cdv A outer
  refine ⟨GL.tGThen (GL.tPlain (tDrop (dU K ct f_shelves1))) (GL.tGThen (GL.tPlain (tDrop (dU K ct f_shelves2))) (GL.tGThen (GL.tPlain (tDrop (dU K ct f_shelves3))) (GL.tGThen (GL.tPlain (tAsg (tDisp1T (dU K ct (asTup (sml aNil))) (tC (.int 1))) (gName 1))) (GL.tGThen (GL.tGWhile (tTest (tOp rNeT (tVar 1) tDNewT)) (GL.tGThen (GL.tGFor (tCB rSrtD (tCons (tVar 1) tNil)) (gName 2) (GL.tGThen (GL.tGYield It n (dU K ct y_shelves)) GL.tG0) K) (GL.tGThen (GL.tPlain (tAsg (dU K ct f_shelves4) (gName 1))) GL.tG0))) GL.tG0)))), ?_, fun H2 m => ?_⟩
  · refine GL.gss_cons (d := dd) (It := It) (n := n) ?_ (GL.gss_cons ?_ (GL.gss_cons ?_ (GL.gss_cons ?_ (GL.gss_one ?_))))
    · exact GL.gs_ps fun s0 H0 => ps_expr (pe_dU (f := f_shelves1) fun F0 H0 => d_call c_require_slope (hr.mono (by decide)) (a_cons (d_var 0 (pv 0)) a_nil))
    · exact GL.gs_ps fun s0 H0 => ps_expr (pe_dU (f := f_shelves2) fun F0 H0 => d_call c_require_coprime (hr.mono (by decide)) (a_cons (d_var 0 (pv 0)) a_nil))
    · exact GL.gs_ps fun s0 H0 => ps_expr (pe_dU (f := f_shelves3) fun F0 H0 => d_call c_require_listed (hr.mono (by decide)) (a_cons (d_var 0 (pv 0)) a_nil))
    · exact GL.gs_ps fun s0 H0 => ps_set (i := 1) S.nd rfl (Or.inl rfl) (pe_disp1T (Nat.lt_of_le_of_lt (Nat.add_le_add_left (by decide) _) hr.units) (pe_dU (f := asTup (sml aNil)) fun F0 H0 => d_tup a_nil) pe_int)
    · refine GL.gs_while (d := dd) (fun s0 H0 => pt_cmpR (op_neT (Nat.lt_of_le_of_lt (Nat.le_add_right _ _) hr.units)) (pv 1) pe_dnewT (nomark _)) (GL.gss_cons ?_ (GL.gss_one ?_))
      · refine GL.gs_for (d := dd) (fun s0 H0 => pe_callB (cr_srtD rfl hr.units) rfl B.sorted boot_sorted (pa_cons (pv 1) pa_nil)) (fun s0 H0 => pg_name (i := 2) S.nd rfl (Or.inl rfl)) (gss1 (GL.gs_yield ok fun s0 H0 => pe_dU (f := y_shelves) fun F0 H0 => d_make c_Shelf (hr.mono (by decide)) (a_cons (d_var 0 (pv 0)) (a_cons (d_var 2 (pv 2)) a_nil))))
      · exact GL.gs_ps fun s0 H0 => ps_set (i := 1) S.nd rfl (Or.inl rfl) (pe_dU (f := f_shelves4) fun F0 H0 => d_call c_grown_from (hr.mono (by decide)) (a_cons (d_var 0 (pv 0)) (a_cons (d_var 1 (pv 1)) a_nil)))
  · cases r with
    | @cons v0 _ _ _ r0 rr =>
      cases rr
      have E0 : EN K ct (DK.strip F) H2 (L2.start ["slope", "layer", "gaps"] [v0]) [slope, .unb, .unb] := by
        refine ⟨rfl, mild_strip s m, fun i d hd hu => ?_⟩
        match i, hd with
        | 0, hd =>
          obtain rfl := Option.some.inj hd
          exact ⟨v0, rfl, r0.strip hsl⟩
        | 1, hd => exact absurd (Option.some.inj hd).symm hu
        | 2, hd => exact absurd (Option.some.inj hd).symm hu
        | i + 3, hd => simp at hd
      have apt0 : Apt F Hs (DK.strip F) H2 := ⟨fun b o h => m b o (strip_some h).1 fun xs e => absurd e ((strip_some h).2 xs), fun b o h t q => by
        unfold DK.strip
        rw [q]
        rfl⟩
      refine E0.d h1 fun F1 H1 v1 g1 rv1 => ?_
      refine (E0.grow g1.f g1.s).d h2 fun F3 H3 v3 g3 rv3 => ?_
      have g13 := g1.trans g3
      refine (E0.grow g13.f g13.s).d h3 fun F4 H4 v4 g4 rv4 => ?_
      have g14 := g13.trans g4
      have E4 := E0.grow g14.f g14.s
      intro p np
      have g5 := Grow.apart (o := .dT []) E4.sub np
      have E5 := E4.grow g5.f g5.s
      refine E5.d (f := asTup (sml aNil)) (d := .tup []) rfl fun F6 H6 v6 g6 rv6 => ?_
      have hp6 : H6 p = some (.dT []) := g6.h _ _ upd_same
      cases rv6 with
      | @tup q6 xs6 _ hq6 hx6 =>
      cases hx6
      refine ⟨q6, [], rfl, (E5.grow g6.f g6.s).sub _ _ hq6, hp6, ?_⟩
      have nf6 : F6 p = none := g6.n _ _ upd_same (fun _ q => by cases q) (E4.sub.free np)
      have E6 := E5.grow g6.f g6.s
      have n2 : H2 p = none := g14.h.free np
      have sH : Same H2 (upd H6 p (.dT [([], .int 1)])) := same_updF (g14.h.trans (g5.h.trans g6.h)) n2
      have E7 : EN K ct F6 (upd H6 p (.dT [([], .int 1)])) (L2.start ["slope", "layer", "gaps"] [v0]) [slope, .unb, .unb] := ⟨E6.len, same_updF E6.sub nf6, E6.ent⟩
      have ne0 : nls [slope, .unb, .unb] = true := by
        simp only [nls, nl, Bool.and_eq_true]
        exact ⟨hsl, trivial, trivial, trivial⟩
      have ap6 : Apt F Hs F6 H6 := (((apt0.grow g14).grow g5).grow g6)
      have k7 : Same (DK.strip Hs) (upd H6 p (.dT [([], .int 1)])) := same_updF ap6.keep (by
        cases hs : DK.strip Hs p with
        | none => rfl
        | some u =>
          have e := (apt0.grow g14).keep _ _ hs
          rw [np] at e
          cases e)
      have E8 := (E7.whole ⟨k7, ap6.off⟩ ne0).set 1 (d := .dct [([], 1)]) (v := .ref p) (.dct (cut_of (strip_of upd_same (fun _ q => by cases q)) fun u hu => by
        have e := (apt0.grow g14).keep _ _ hu
        rw [np] at e
        cases e))
      refine ⟨fun j k wk σ H => ∃ x2 kvs, WL K ct (F, Hs) wk σ H [slope, .dct kvs, x2] ∧ lpS slope j .unb kvs = some (all'.drop k) ∧ k ≤ all'.length, ⟨80, .unb, [([], 1)], ⟨E8, k7, ⟨fun b hb => (by cases hb), fun b o h _ => sH _ _ h, fun b hb => (by cases hb)⟩, ?_⟩, h4, Nat.zero_le _⟩, fun j k wk σ H ⟨x2, kvs, w, hl, hle⟩ => ?_⟩
      · simp only [nls, nl, Bool.and_eq_true]
        exact ⟨hsl, trivial, trivial, trivial⟩
      · cases j with
        | zero => cases hl
        | succ j =>
          obtain ⟨v1, hv1, rv1⟩ := w.en.ent 1 _ rfl (fun q => by cases q)
          cases rv1 with
          | @dct a _ ha =>
          refine ⟨.ref a, hv1, fun p np => ⟨a, p, kvs.map encT, rfl, rfl, ?_, upd_same, ⟨_, rfl, ?_⟩⟩⟩
          · rw [upd_ne (ne_of_none (w.en.sub _ _ ha) np)]
            exact w.en.sub _ _ ha
          have w1 := w.grow (Grow.apart (o := .dT []) w.en.sub np)
          have ha1 : (upd H p (.dT [])) a = some (.dT (kvs.map encT)) := by
            rw [upd_ne (ne_of_none (w.en.sub _ _ ha) np)]
            exact w.en.sub _ _ ha
          unfold lpS at hl
          split at hl
          · next he =>
            have he : kvs = [] := List.isEmpty_iff.mp he
            subst he
            have hl := Option.some.inj hl
            refine iteF ⟨?_, w1.chg⟩
            have e := congrArg List.length hl
            rw [List.length_drop] at e
            have e : 0 = all'.length - k := e
            rw [hn]
            exact Nat.le_antisymm hle (Nat.le_of_sub_eq_zero e.symm)
          · next he =>
            split at hl
            rotate_left
            · cases hl
            next hok =>
            have hok := (Bool.and_eq_true_iff.mp hok).2
            obtain ⟨ys, hys, hl⟩ := bnd_some hl
            obtain ⟨l4, hl4, hl⟩ := bnd_some hl
            obtain ⟨kvs', hk', hl⟩ := bnd_some hl
            obtain ⟨zs, hzs, hl⟩ := bnd_some hl
            have hl : ys ++ zs = all'.drop k := Option.some.inj hl
            have eb : (!(kvs.map encT).isEmpty) = true := by
              cases kvs with
              | nil => exact absurd rfl he
              | cons => rfl
            rw [eb]
            refine iteT ⟨fun k' wk' σ' H' => ∃ x2 kvs, WL K ct (F, Hs) wk' σ' H' [slope, .dct kvs, x2] ∧ lpS slope j .unb kvs = some (all'.drop k') ∧ k' ≤ all'.length, fun k' wk' σ' H' q => ⟨j, Nat.lt_succ_self j, q⟩, ?_⟩
            refine ⟨.ref a, hv1, a, kvs, rfl, ha1, okKs_or hok, fun b xs nb hxl hxs => ?_⟩
            have hkl : (srtK (kvs.map (·.1))).length = xs.length := by rw [hxl, (srtK_perm _).length_eq, List.length_map]
            have w2 := w1.grow (Grow.apart (o := .lst xs) w1.en.sub nb)
            refine ⟨b, xs, rfl, .inl (.inl upd_same), fun i k' wk' σ' H' => ∃ x2 ys', WI K ct (F, Hs) wk' σ' H' [slope, .dct kvs, x2] b xs (srtK (kvs.map (·.1))) ∧ yldS slope (.dct kvs) ((srtK (kvs.map (·.1))).drop i) = some ys' ∧ ys' ++ zs = all'.drop k' ∧ k' ≤ all'.length, ⟨x2, ys, ⟨w2, upd_same, .inr (chg_free w1.chg nb), fun i ks hi => ?_⟩, hys, hl, hle⟩, fun i k' wk' σ' H' _ ⟨x2, ys', w3, _⟩ => .inl (.inl w3.at_), fun i x k' wk' σ' H' hx ⟨x2, ys', w3, hy, hd3, hle3⟩ => ?_, fun k' wk' σ' H' ⟨x2, ys', w3, hy, hd3, hle3⟩ => ?_⟩
            · obtain ⟨q, e1, e2⟩ := hxs i ks hi
              refine ⟨q, e1, cut_of (strip_of ?_ (fun _ q => by cases q)) fun u hu t => ?_⟩
              · rw [upd_ne (ne_of_none e2 nb)]
                exact e2
              · have e := w1.keep _ _ hu
                rw [e2] at e
                exact absurd (Option.some.inj e).symm (t _)
            · have hi : i < (srtK (kvs.map (·.1))).length := by rw [hkl]; exact (List.getElem?_eq_some_iff.mp hx).1
              rw [List.drop_eq_getElem_cons hi] at hy
              obtain ⟨d, ys2, hd1, hnl1, hy2, rfl⟩ := yldS_cons (d := .non) hy
              obtain ⟨q, e1, e2⟩ := w3.key i _ (List.getElem?_eq_getElem hi)
              rw [hx] at e1
              obtain rfl := Option.some.inj e1
              have E9 := w3.en.set 2 (d := kT (srtK (kvs.map (·.1)))[i]) (.tup e2 (rep_keys _))
              have hat : all'[k']? = some d := by
                have e := congrArg (·[0]?) hd3
                simpa using e.symm
              have hlt : k' < all'.length := (List.getElem?_eq_some_iff.mp hat).1
              refine E9.d hd1 fun F10 H10 v10 g10 rv10 => ?_
              have ne9 : nls [slope, .dct kvs, kT (srtK (kvs.map (·.1)))[i]] = true := by
                simp only [nls, nl, kT, nls_ints, Bool.and_eq_true]
                exact ⟨hsl, trivial, trivial, trivial⟩
              have hb10 : H10 b = some (.lst xs) := g10.h _ _ w3.at_
              refine ⟨by rw [hn]; exact hlt, by rw [hIt]; exact ⟨d, DK.strip F10, hat, rv10.strip hnl1, fun b o h => g10.s _ _ (strip_some h).1, ((cut_apt w3.keep).grow g10).slept (W := []) (fun b o h _ => h), fun b xs => strip_no⟩, chg_grow w3.chg g10.h, [b], fun c hc => ?_, fun H11 m11 => ?_⟩
              · obtain rfl := List.mem_singleton.mp hc
                exact ⟨w3.new, xs, hb10⟩
              · have hb11 : H11 b = some (.lst xs) := m11 b _ hb10 fun _ _ => List.mem_singleton.mpr rfl
                refine ⟨_, ys2, ⟨⟨(E9.grow g10.f g10.s).whole' ((cut_apt w3.keep).grow g10) m11 ne9, keep_mild (w3.keep.trans g10.h) m11, ⟨fun c hc => ⟨xs, by rw [List.mem_singleton.mp hc]; exact hb11⟩, fun c o h _ => h, fun c hc => ⟨xs, by rw [List.mem_singleton.mp hc]; exact hb11⟩⟩, ne9⟩, hb11, .inl (List.mem_singleton.mpr rfl), fun i ks hi => ?_⟩, hy2, ?_, hlt⟩
                · obtain ⟨q, e1, e2⟩ := w3.key i ks hi
                  exact ⟨q, e1, cut_mild (w3.keep.trans g10.h) m11 _ _ (cut_mild w3.keep (W := []) (fun b o h _ => g10.h _ _ h) _ _ e2)⟩
                · have e := congrArg (List.drop 1) hd3
                  rw [List.drop_drop] at e
                  simpa using e
            · rw [List.drop_eq_nil_of_le (by rw [hkl]; exact Nat.le_refl _)] at hy
              obtain rfl := Option.some.inj hy
              have hl4 : f_shelves4 [slope, .dct kvs, x2] = some l4 := hl4
              refine w3.en.d hl4 fun F12 H12 v12 g12 rv12 => ?_
              have w12 := w3.toWL.grow g12
              cases l4 <;> first | (cases hk'; done) | skip
              obtain rfl := Option.some.inj hk'
              cases rv12 with
              | @dct a12 _ h12 =>
              have ap12 := (cut_apt (F0 := F) w3.keep).grow g12
              refine ⟨x2, _, ⟨w12.en.set 1 (.dct (cut_of (strip_of (g12.s _ _ h12) (fun _ q => by cases q)) fun u hu t e => by
                rw [ap12.off _ u hu t e] at h12
                cases h12)), w12.keep, w12.chg, ?_⟩, by rw [hzs]; exact congrArg some hd3, hle3⟩
              have ne := w3.ne
              simp only [nls, nl, Bool.and_eq_true] at ne ⊢
              exact ne
end
end DK
/-! GW3 -/
set_option Elab.async false
set_option linter.all false
set_option maxRecDepth 100000
set_option maxHeartbeats 4000000
/-! Who uses a generator: list(g(..)), for x in g(..), [.. for x in g(..)]. -/
namespace DK
noncomputable section
open PySem PySem.Spec PyProof.Rows L2 GL
open SlX (Slt SlO slH putS Slot1 SIsi)

/-- the module's name x is a generator's def that yields fn -/
structure CalG (P : Program) (w : World) (K : PySem.W.Frag) (mg : Str → Option Value) (base : Heap) (ct : Nat → Addr) (k : Nat) (x : Str) (fn : List D → Option (List D)) : Prop where
  ex : ∃ (fa : Addr) (fd : FuncData) (ps : List Str), GFnW P w K mg base k fa fd ps (spW K ct fn) ∧ mg x = some (.ref fa) ∧ PySem.W.keepIn K (.ref fa) = true ∧ Binds K fd ps []
  nl : ∀ ds all, fn ds = some all → nls all = true
theorem nl_ways : ∀ ds all, m_ways ds = some all → nls all = true := fun ds all h => by
  unfold m_ways at h
  split at h
  · split at h
    · obtain ⟨_, _, h⟩ := bnd_some h
      obtain ⟨_, _, h⟩ := bnd_some h
      split at h
      · obtain ⟨_, _, h⟩ := bnd_some h
        split at h
        · next hn =>
          obtain rfl := Option.some.inj h
          exact hn
        · cases h
      · cases h
    · cases h
  · cases h
theorem nl_shelves : ∀ ds all, m_shelves ds = some all → nls all = true := fun ds all h => by
  unfold m_shelves at h
  split at h
  · split at h
    · obtain ⟨_, _, h⟩ := bnd_some h
      obtain ⟨_, _, h⟩ := bnd_some h
      obtain ⟨_, _, h⟩ := bnd_some h
      obtain ⟨_, _, h⟩ := bnd_some h
      split at h
      · next hn =>
        obtain rfl := Option.some.inj h
        exact hn
      · cases h
    · cases h
  · cases h
def callG (fn : List D → Option (List D)) (g : En → Option (List D)) (env : En) : Option (List D) := bnd (callF fn g env) fun all => if all.length ≤ 5000 then some all else none
/-- one item, as the consumer gets it -/
def ItG (K : PySem.W.Frag) (ct : Nat → Addr) (F1 H1 : Hp) (all : List D) : Nat → V → Hp → Prop := fun k x H2 => ∃ d F2, all[k]? = some d ∧ Rep K ct F2 x d ∧ Same F2 H2 ∧ Apt F1 H1 F2 H2 ∧ ∀ b xs, F2 b ≠ some (.lst xs)
def tgD (K : PySem.W.Frag) (z : Zc) (fn : List D → Option (List D)) (ag : En → Option (List D)) : TGenW := fun σ H R => ∃ F env, ER K z F H σ env ∧ ∃ all, callG fn ag env = some all ∧ ∀ F1 H1, Grow F H F1 H1 → R (ItG K z.ct F1 H1 all) all.length H1
theorem pgw_imp {X : Cx} {k : Nat} {e : Expr} {t t' : TGenW} (h : PGW X k e t) (w : ∀ σ H R, t' σ H R → t σ H R) : PGW X k e t' := ⟨fun pins s σ H R I q => h.run pins s σ H R I (w _ _ _ q)⟩
section
variable {X : Cx} {z : Zc} {ag : En → Option (List D)} {e : Expr} {es : List Expr} {pos : Pos} {k : Nat} {fn : List D → Option (List D)}
theorem g_call {x : Str} {p : Pos} (C : CalG X.prog X.w X.K X.mg X.base z.ct k x fn) (hc : X.calm = true) (hr : X.A.depth < recursionLimit) (ha : PA X (e :: es) (tL X.K z ag)) (hg : Gl X x := by rfl) (hdb : (x == ("__debug__" : Str)) = false := by decide)
    (he : starEach (e :: es) X.env = (false, eval e X.env) :: starEach es X.env := by rfl) (hpl : (backTo pos (starEach es X.env)).any (·.1) = false := by rfl) : PGW X k (.Call (.Name x p) (e :: es) [] pos) (tgD X.K z fn ag) := by
  obtain ⟨fa, fd, ps, G, hm, hk, hb⟩ := C.ex
  refine pgw_imp (pgw_call G hc hr hg hm hk hb ha hdb he hpl) fun σ H R ⟨F, env, E, all, hd, kq⟩ => ?_
  obtain ⟨all', h0, hd⟩ := bnd_some hd
  split at hd
  rotate_left
  · cases hd
  obtain rfl := Option.some.inj hd
  obtain ⟨ds, h1, h2⟩ := bnd_some h0
  exact ⟨F, env, E, ds, h1, fun F1 H1 vs g1 r1 => ⟨_, _, ⟨F1, ds, _, g1.s, r1, h2, rfl, C.nl _ _ h2, rfl⟩, kq F1 H1 g1⟩⟩
end
/-- what the consumer holds on to, and what came from the generator -/
def mrg (F1 H1 H : Hp) : Hp := fun b => match F1 b with
  | some o => some o
  | none => cut F1 H1 H b
section
variable {F1 H1 H H2 F2 : Hp}
theorem mrg_some {b : Addr} {o : HO} (h : F1 b = some o) : mrg F1 H1 H b = some o := by
  unfold mrg
  rw [h]
theorem mrg_none {b : Addr} (h : F1 b = none) : mrg F1 H1 H b = cut F1 H1 H b := by
  unfold mrg
  rw [h]
theorem mrg_grow (s : Same F1 H1) (t : Same H1 H) : Grow F1 H1 (mrg F1 H1 H) H := ⟨fun b o h => mrg_some h, t, fun b o h => by
  cases hF : F1 b with
  | some u =>
    rw [mrg_some hF] at h
    obtain rfl := Option.some.inj h
    exact t _ _ (s _ _ hF)
  | none =>
    rw [mrg_none hF] at h
    exact (strip_some (cut_some h)).1, fun b o h ht hF => by
  rw [mrg_none hF]
  cases hc : cut F1 H1 H b with
  | none => rfl
  | some u =>
    have q := strip_some (cut_some hc)
    have e := t _ _ h
    rw [q.1] at e
    obtain rfl := Option.some.inj e
    unfold cut at hc
    rw [hF, strip_of h q.2] at hc
    split at hc
    · next e => exact absurd (Option.some.inj e) (ht _)
    · cases hc
    · next e1 e2 => exact absurd rfl (e2 _ rfl)⟩
theorem mrg_sub (s : Same F1 H1) (t : Same H1 H) (a : Apt F1 H1 F2 H) (s2 : Same F2 H) (n : ∀ b xs, F2 b ≠ some (.lst xs)) : Same F2 (mrg F1 H1 H) := fun b o h => by
  cases hF : F1 b with
  | some u =>
    rw [mrg_some hF]
    have e := t _ _ (s _ _ hF)
    rw [s2 _ _ h] at e
    exact e.symm
  | none =>
    rw [mrg_none hF]
    exact a.sub s2 n _ _ h
theorem mrg_chg {W : List Addr} (c : Chg W H H2) : Same (mrg F1 H1 H) (mrg F1 H1 H2) := fun b o h => by
  cases hF : F1 b with
  | some u =>
    rw [mrg_some hF] at h ⊢
    exact h
  | none =>
    rw [mrg_none hF] at h ⊢
    have q := strip_some (cut_some h)
    have nw : b ∉ W := fun hb => by
      obtain ⟨xs, e⟩ := c.lists b hb
      rw [q.1] at e
      exact q.2 xs (Option.some.inj e)
    refine cut_of (strip_of (c.same _ _ q.1 nw) q.2) fun u hu t e => ?_
    unfold cut at h
    rw [e, hu] at h
    split at h
    · next e => exact absurd (Option.some.inj e) (t _)
    · cases h
    · next e1 e2 => exact absurd rfl (e2 _ rfl)
end
section
variable {X : Cx} {z : Zc} {ag : En → Option (List D)} {e : Expr} {es : List Expr} {pos : Pos} {k : Nat} {fn : List D → Option (List D)}
theorem small5 {n : Nat} (h : n ≤ 5000) : n ≤ sizeLine := Nat.le_trans h (by decide)
/-- list(g(..)) -/
theorem f_listG {nm : Str} {p pos2 : Pos} {ge : Expr} (hg : PGW X k ge (tgD X.K z fn ag)) (hx : ∀ e s, X.xe e s → False) (hc : X.calm = true) (hr : Room (k + 3) X.A) (hgl : Gl X nm) (hmg : X.mg nm = none) (hv : bootBuiltins nm = some (.type "list")) (hnm : nm ≠ "__name__" := by decide) (hdb : (nm == ("__debug__" : Str)) = false := by decide)
    (he : starEach [ge] X.env = (false, eval ge X.env) :: starEach [] X.env := by rfl) : PE X (.Call (.Name nm p) [ge] [] pos2) (tF X.K z (callG fn ag)) := by
  refine pe_imp (pe_listW hg hx hc hr hgl hmg hv hnm hdb he) fun σ H Q ⟨F, env, E, all, hd, kq⟩ => ?_
  refine ⟨F, env, E, all, hd, fun F1 H1 g1 => ?_⟩
  have hl : all.length ≤ 5000 := by
    obtain ⟨all', h0, hd⟩ := bnd_some hd
    split at hd
    · next h =>
      obtain rfl := Option.some.inj hd
      exact h
    · cases hd
  refine ⟨small5 hl, fun k ys W H2 => Same H1 H2 ∧ (∀ b ∈ W, H1 b = none) ∧ Reps X.K z.ct (mrg F1 H1 H2) ys (all.take k), ⟨.refl _, fun b hb => (by cases hb), .nil⟩, fun k ys W H2 x H3 W3 ⟨t, fw, r⟩ hk ⟨d, F2, hat, rd, s2, ap, nl2⟩ chg hW => ?_, fun ys W H2 H3 p ⟨t, fw, r⟩ chg np => ?_⟩
  · have t3 : Same H1 H3 := fun b o h => chg.same _ _ (t _ _ h) fun hb => by
      rw [fw b hb] at h
      cases h
    refine ⟨t3, fun b hb => ?_, ?_⟩
    · rcases hW b hb with q | q
      · exact fw b q
      · exact t.free q
    · have e : all.take (k + 1) = all.take k ++ [d] := by
        rw [List.take_add_one, hat]
        rfl
      rw [e]
      exact (r.mono (mrg_chg chg)).append (.cons (rd.mono (mrg_sub g1.s t3 ap s2 nl2)) .nil)
  · have t3 : Same H1 H3 := fun b o h => chg.same _ _ (t _ _ h) fun hb => by
      rw [fw b hb] at h
      cases h
    have g2 := g1.trans (mrg_grow g1.s t3)
    rw [List.take_length] at r
    exact kq _ _ p ys (g2.trans (Grow.apart (mrg_grow g1.s t3).s np)) (g2.h.free np) upd_same ((mrg_grow g1.s t3).s.free np) (r.mono (mrg_chg chg))
end
end
end DK
/-! GW4 -/
set_option Elab.async false
set_option linter.all false
set_option maxRecDepth 100000
set_option maxHeartbeats 4000000
namespace DK
noncomputable section
open PySem PySem.Spec PyProof.Rows L2 GL
open SlX (Slt SlO slH putS Slot1 SIsi)

/-- both -/
def un (F F' : Hp) : Hp := fun b => match F b with
  | some o => some o
  | none => F' b
section
variable {F F' H H2 F0 H0 F1 H1 : Hp}
theorem un_some {b : Addr} {o : HO} (h : F b = some o) : un F F' b = some o := by
  unfold un
  rw [h]
theorem un_none {b : Addr} (h : F b = none) : un F F' b = F' b := by
  unfold un
  rw [h]
theorem un_left : Same F (un F F') := fun b o h => un_some h
theorem un_right (s : Same F H2) (t : Same F' H2) : Same F' (un F F') := fun b o h => by
  cases hF : F b with
  | some u =>
    rw [un_some hF]
    have e := s _ _ hF
    rw [t _ _ h] at e
    exact e.symm
  | none => rw [un_none hF]; exact h
theorem un_sub (s : Same F H2) (t : Same F' H2) : Same (un F F') H2 := fun b o h => by
  cases hF : F b with
  | some u =>
    rw [un_some hF] at h
    obtain rfl := Option.some.inj h
    exact s _ _ hF
  | none =>
    rw [un_none hF] at h
    exact t _ _ h
/-- what stood at the call stays apart -/
theorem un_grow (g : Grow F0 H0 F H) (g1 : Grow F0 H0 F1 H1) (h2 : Same H0 H2) (s : Same F H2) (t : Same F' H2) (a : ∀ b o, DK.strip H1 b = some o → (∀ xs, o ≠ .tup xs) → F1 b = none → F' b = none) (n : ∀ b xs, F' b ≠ some (.lst xs)) : Grow F0 H0 (un F F') H2 := ⟨g.f.trans un_left, h2, un_sub s t, fun b o hb ht hF => by
  rw [un_none (g.n b o hb ht hF)]
  cases hc : F' b with
  | none => rfl
  | some u =>
    have e := h2 _ _ hb
    rw [t _ _ hc] at e
    obtain rfl := Option.some.inj e
    rw [a b _ (strip_of (g1.h _ _ hb) fun xs q => n b xs (by rw [hc, q])) ht (g1.n b _ hb ht hF)] at hc
    cases hc⟩
theorem chg_same {W : List Addr} (c : Chg W H H2) (s : Same F H) (f : ∀ b ∈ W, F b = none) : Same F H2 := fun b o h => c.same _ _ (s _ _ h) fun hb => by
  rw [f b hb] at h
  cases h
end
/-- own lists only -/
def onlyL (env : En) : Bool := env.all fun d => match d with
  | .ownD _ => false
  | .ownO _ _ => false
  | _ => true
def lpG (i : Nat) (f : En → Option Out) : List D → En → Option Out
  | [], env => if onlyL env then some (.nx env) else none
  | d :: ds, env => if onlyL env then bnd (f (env.set i d)) fun o => match o with | .nx e => lpG i f ds e | .rt r => some (.rt r) else none
def iForG (fn : List D → Option (List D)) (ag : En → Option (List D)) (i : Nat) (f : En → Option Out) (env : En) : Option Out := bnd (callG fn ag env) fun all => lpG i f all env
def lcGL (i : Nat) (f : En → Option D) (env : En) : List D → Option (List D)
  | [] => some []
  | d :: ds => bnd (f (env.set i d)) fun r => bnd (lcGL i f env ds) fun rs => some (r :: rs)
def lcG (fn : List D → Option (List D)) (ag : En → Option (List D)) (i : Nat) (f : En → Option D) (env : En) : Option (List D) := if (env.all fun d => !d.isOwn) = true then bnd (callG fn ag env) fun all => lcGL i f (wipeE env [i]) all else none
/-- the heap but the own lists -/
def ownAt (σ : L2.St) (env : En) (b : Addr) : Prop := ∃ (j : Nat) (d : D), env[j]? = some d ∧ d.isOwn = true ∧ σ[j]? = some (some (.ref b))
open Classical in
noncomputable def zoneH (σ : L2.St) (env : En) (H : Hp) : Hp := fun b => if ownAt σ env b then none else H b
theorem zone_some {σ : L2.St} {env : En} {H : Hp} {b : Addr} {o : HO} (h : zoneH σ env H b = some o) : ¬ ownAt σ env b ∧ H b = some o := by
  unfold zoneH at h
  split at h
  · cases h
  · next hn => exact ⟨hn, h⟩
theorem zone_of {σ : L2.St} {env : En} {H : Hp} {b : Addr} {o : HO} (h : H b = some o) (hn : ¬ ownAt σ env b) : zoneH σ env H b = some o := by
  unfold zoneH
  rw [if_neg hn]
  exact h
theorem zone_own {σ : L2.St} {env : En} {H : Hp} {b : Addr} (h : ownAt σ env b) : zoneH σ env H b = none := by
  unfold zoneH
  rw [if_pos h]
section
variable {K : PySem.W.Frag} {z : Zc} {F H F' H' F1 H1 H2 : Hp} {σ σ' : L2.St} {env env' : En}
theorem onlyL_get {i : Nat} {d : D} (h : onlyL env = true) (hi : env[i]? = some d) (ho : d.isOwn = true) : ∃ ds, d = .own ds := by
  have q := List.all_eq_true.mp h d (List.mem_of_getElem? hi)
  cases d <;> first | (cases ho; done) | (cases q; done) | exact ⟨_, rfl⟩
theorem ER.ownH (E : ER K z F H σ env) (ho : onlyL env = true) {b : Addr} (h : ownAt σ env b) : (∃ xs, H b = some (.lst xs)) ∧ F b = none ∧ z.H0 b = none := by
  obtain ⟨j, d, h1, h2, h3⟩ := h
  obtain ⟨ds, rfl⟩ := onlyL_get ho h1 h2
  obtain ⟨v, h4, l, xs, rfl, h5, h6, h7, h8⟩ := E.ent j _ h1 (fun q => by cases q)
  rw [h3] at h4
  injection h4 with h4
  injection h4 with h4
  injection h4 with h4
  subst h4
  exact ⟨⟨xs, h5⟩, h6, h7⟩
theorem ER.zone (E : ER K z F H σ env) (ho : onlyL env = true) : ER K ⟨z.ct, F, zoneH σ env H, z.me⟩ F H σ env := by
  refine ⟨E.len, ⟨.refl _, fun b o h => (zone_some h).2, E.sub, fun _ _ _ _ q => q⟩, fun i d hi hu => ?_, E.dis⟩
  obtain ⟨v, h1, h2⟩ := E.ent i d hi hu
  refine ⟨v, h1, ?_⟩
  by_cases hd : d.isOwn = true
  · obtain ⟨ds, rfl⟩ := onlyL_get ho hi hd
    obtain ⟨l, xs, rfl, h5, h6, h7, h8⟩ := h2
    exact ⟨l, xs, rfl, h5, h6, zone_own ⟨i, _, hi, rfl, h1⟩, h8⟩
  · have hd : d.isOwn = false := by simpa using hd
    exact .of (z := ⟨z.ct, F, zoneH σ env H, z.me⟩) (h2.rep hd hu)
theorem ER.zoneGrow (E : ER K z F H σ env) (ho : onlyL env = true) : Grow z.F0 z.H0 F (zoneH σ env H) := by
  refine ⟨E.gr.f, fun b o h => zone_of (E.gr.h _ _ h) fun q => ?_, fun b o h => zone_of (E.sub _ _ h) fun q => ?_, E.gr.n⟩
  · rw [(E.ownH ho q).2.2] at h
    cases h
  · rw [(E.ownH ho q).2.1] at h
    cases h
theorem ER.unzone {F3 Hz : Hp} (E : ER K ⟨z.ct, F3, Hz, z.me⟩ F' H' σ' env') (g : Grow z.F0 z.H0 F3 Hz) : ER K z F' H' σ' env' := by
  refine ⟨E.len, g.trans E.gr, fun i d hi hu => ?_, E.dis⟩
  obtain ⟨v, h1, h2⟩ := E.ent i d hi hu
  refine ⟨v, h1, ?_⟩
  cases d with
  | unb => exact trivial
  | own ds =>
    obtain ⟨l, xs, e, h3, h4, h5, h6⟩ := h2
    exact ⟨l, xs, e, h3, h4, g.h.free h5, h6⟩
  | ownD kvs =>
    obtain ⟨l, e, h3, h4, h5⟩ := h2
    exact ⟨l, e, h3, h4, g.h.free h5⟩
  | ownO c ds =>
    obtain ⟨a, dx, vs, e, ne, h3, h4, h5, h6, h7, h8, h9, h10⟩ := h2
    exact ⟨a, dx, vs, e, ne, h3, h4, h5, h6, g.h.free h7, g.h.free h8, h9, h10⟩
  | _ => exact h2
/-- the generator ran -/
theorem ER.wake (E : ER K z F H σ env) (ho : onlyL env = true) {W : List Addr} (c : Chg W H H2) (w0 : ∀ b ∈ W, z.H0 b = none ∧ F b = none ∧ ¬ ownAt σ env b) (g1 : Grow z.F0 z.H0 F1 H1) (t : Same F' H2) (a : ∀ b o, DK.strip H1 b = some o → (∀ xs, o ≠ .tup xs) → F1 b = none → F' b = none) (n : ∀ b xs, F' b ≠ some (.lst xs)) : ER K z (un F F') H2 σ env := by
  have sF : Same F H2 := chg_same c E.sub fun b hb => (w0 b hb).2.1
  refine ⟨E.len, un_grow E.gr g1 (chg_same c E.gr.h fun b hb => (w0 b hb).1) sF t a n, fun i d hi hu => ?_, E.dis⟩
  obtain ⟨v, h1, h2⟩ := E.ent i d hi hu
  refine ⟨v, h1, ?_⟩
  by_cases hd : d.isOwn = true
  · obtain ⟨ds, rfl⟩ := onlyL_get ho hi hd
    obtain ⟨l, xs, rfl, h5, h6, h7, h8⟩ := h2
    have q : H2 l = some (.lst xs) := c.same _ _ h5 fun hb => (w0 l hb).2.2 ⟨i, _, hi, rfl, h1⟩
    refine ⟨l, xs, rfl, q, ?_, h7, h8.mono un_left⟩
    rw [un_none h6]
    cases hc : F' l with
    | none => rfl
    | some u =>
      have e := t _ _ hc
      rw [q] at e
      exact absurd (hc.trans e.symm) (n l xs)
  · have hd : d.isOwn = false := by simpa using hd
    exact .of ((h2.rep hd hu).mono un_left)
theorem un_no {W1 : List Addr} {b : Addr} {xs : List V} (h : F b = none) (hl : H2 b = some (.lst xs)) (t : Same F' H2) (n : ∀ b xs, F' b ≠ some (.lst xs)) : un F F' b = none := by
  rw [un_none h]
  cases hc : F' b with
  | none => rfl
  | some u =>
    have e := t _ _ hc
    rw [hl] at e
    exact absurd (hc.trans e.symm) (n b xs)
end
end
end DK
/-! GW5 -/
set_option Elab.async false
set_option linter.all false
set_option maxRecDepth 100000
set_option maxHeartbeats 4000000
namespace DK
noncomputable section
open PySem PySem.Spec PyProof.Rows L2 GL
open SlX (Slt SlO slH putS Slot1 SIsi)

def stU (K : PySem.W.Frag) (ct : Nat → Addr) (me : Addr) (g : En → Option Out) : TS := fun E σ H => ∃ F0 H0, tS K ⟨ct, F0, H0, me⟩ g E σ H
theorem pss_stU {X : Cx} {ct : Nat → Addr} {me : Addr} {ss : List Stmt} {g : En → Option Out} (h : ∀ F0 H0, PSs X ss (tS X.K ⟨ct, F0, H0, me⟩ g)) : PSs X ss (stU X.K ct me g) := ⟨fun pins s σ H E I ⟨F0, H0, q⟩ => (h F0 H0).run pins s σ H E I q⟩
section
variable {X : Cx} {z : Zc} {ag : En → Option (List D)} {pos : Pos} {k : Nat} {fn : List D → Option (List D)} {i1 : En → Option Out}
/-- for x in g(..) -/
theorem s_forG (i : Nat) {x : Str} {px : Pos} {ge : Expr} {ss : List Stmt} (hg : PGW X k ge (tgD X.K z fn ag)) (hxe : ∀ e s, X.xe e s → False) (hc : X.calm = true) (hr : Room (k + 1) X.A) (hN : X.N.Nodup) (hx : Loc X.env.scope x) (hb : ∀ F0 H0, PSs X ss (tS X.K ⟨z.ct, F0, H0, z.me⟩ i1)) (hi : X.N[i]? = some x := by rfl) (hf : X.fn x = true ∨ X.env.scope.names.lookup x = some .local := by first | exact .inl rfl | exact .inr rfl)
    (hs : ∀ x, foldedSetIterable ge X.env x = pure x := by intro _; rfl) : PS X (.For (.Name x px) ge ss [] pos) (tS X.K z (iForG fn ag i i1)) := ps_imp (ps_forG hxe hc hr hg (pg_name hN hi hx hf) (pss_stU hb) hs) fun E σ H ⟨F, env, R, o, ho, p⟩ => by
  obtain ⟨all, h1, ho⟩ := bnd_some ho
  refine ⟨F, env, R, all, h1, fun F1 H1 g1 => ?_⟩
  have R1 := R.grow g1
  refine ⟨fun k W σ H => ∃ F2 env2, ER X.K z F2 H σ env2 ∧ Same F1 F2 ∧ lpG i i1 (all.drop k) env2 = some o ∧ ∀ b ∈ W, z.H0 b = none ∧ F2 b = none ∧ ¬ ownAt σ env2 b, ⟨F1, env, R1, .refl _, ho, fun b hb => (by cases hb)⟩, fun k W σ H x H2 W1 ⟨F2, env2, R2, s2, h2, w2⟩ hk ⟨d, F', hat, rd, t, ap, n⟩ chg hW => ?_, fun W σ H H2 ⟨F2, env2, R2, s2, h2, w2⟩ chg => ?_⟩
  · have hlt : k < all.length := (List.getElem?_eq_some_iff.mp hat).1
    rw [List.drop_eq_getElem_cons hlt] at h2
    have e1 : all[k] = d := by
      rw [List.getElem?_eq_getElem hlt] at hat
      exact Option.some.inj hat
    rw [e1] at h2
    unfold lpG at h2
    split at h2
    rotate_left
    · cases h2
    next hol =>
    obtain ⟨o3, h3, h2⟩ := bnd_some h2
    have sF : Same F2 H2 := chg_same chg R2.sub fun b hb => (w2 b hb).2.1
    have R3 := (R2.wake hol chg w2 R1.gr t ap.off n).set i (rd.mono (un_right sF t))
    have nod : d.isOwn = false := by cases rd <;> rfl
    have hol3 : onlyL (env2.set i d) = true := by
      refine List.all_eq_true.mpr fun e he => ?_
      rcases List.mem_or_eq_of_mem_set he with q | q
      · exact List.all_eq_true.mp hol e q
      · subst q
        cases e <;> first | rfl | (cases nod; done)
    have own3 : ∀ {b}, ownAt (σ.set i (some x)) (env2.set i d) b → ownAt σ env2 b := fun {b} ⟨j, e, q1, q2, q3⟩ => by
      have hij : i ≠ j := fun q => by
        subst q
        have hlt : i < env2.length := by
          have q := (List.getElem?_eq_some_iff.mp q1).1
          rwa [List.length_set] at q
        rw [List.getElem?_set_self hlt] at q1
        obtain rfl := Option.some.inj q1
        rw [nod] at q2
        cases q2
      rw [List.getElem?_set_ne hij] at q1 q3
      exact ⟨j, e, q1, q2, q3⟩
    have w1 : ∀ b ∈ W1, z.H0 b = none ∧ un F2 F' b = none ∧ ¬ ownAt σ env2 b ∧ ∃ ys, H2 b = some (.lst ys) := fun b hb => by
      obtain ⟨q, ys, hy⟩ := hW b hb
      rcases q with q | q
      · obtain ⟨q1, q2, q3⟩ := w2 b q
        exact ⟨q1, un_no (W1 := W1) q2 hy t n, q3, ys, hy⟩
      · refine ⟨R2.gr.h.free q, un_no (W1 := W1) (R2.sub.free q) hy t n, fun h => ?_, ys, hy⟩
        obtain ⟨⟨xs, e⟩, _⟩ := R2.ownH hol h
        rw [q] at e
        cases e
    refine ⟨Mild.refl _ _, un F2 F', zoneH (σ.set i (some x)) (env2.set i d) H2, un F2 F', env2.set i d, R3.zone hol3, o3, h3, ?_⟩
    cases o3 with
    | rt r =>
      obtain rfl := Option.some.inj h2
      exact fun F4 H4 v s4 g4 r4 => p F4 H4 v ((g1.f.trans s2).trans (un_left.trans s4)) ((R3.zoneGrow hol3).trans g4) r4
    | nx e4 =>
      have h2 : lpG i i1 (all.drop (k + 1)) e4 = some o := h2
      have fin : ∀ F4 H4 σ4, Same (un F2 F') F4 → ER X.K ⟨z.ct, un F2 F', zoneH (σ.set i (some x)) (env2.set i d) H2, z.me⟩ F4 H4 σ4 e4 → Mild W1 H2 H4 ∧ ∃ F2 env2, ER X.K z F2 H4 σ4 env2 ∧ Same F1 F2 ∧ lpG i i1 (all.drop (k + 1)) env2 = some o ∧ ∀ b ∈ W1, z.H0 b = none ∧ F2 b = none ∧ ¬ ownAt σ4 env2 b := fun F4 H4 σ4 s4 R4 => by
        refine ⟨fun b u hb hu => ?_, F4, e4, R4.unzone (R3.zoneGrow hol3), s2.trans (un_left.trans s4), h2, fun b hb => ?_⟩
        · refine R4.gr.h _ _ (zone_of hb fun q => ?_)
          obtain ⟨⟨xs, e⟩, _⟩ := R3.ownH hol3 q
          rw [hb] at e
          exact (w1 b (hu xs (Option.some.inj e))).2.2.1 (own3 q)
        · obtain ⟨q1, q2, q3, ys, q4⟩ := w1 b hb
          have qz : zoneH (σ.set i (some x)) (env2.set i d) H2 b = some (.lst ys) := zone_of q4 fun q => q3 (own3 q)
          refine ⟨q1, R4.gr.n _ _ qz (fun _ q => by cases q) q2, fun ⟨j, d', q5, q6, q7⟩ => ?_⟩
          obtain ⟨v, q8, q9⟩ := R4.ent j d' q5 (fun q => by subst q; cases q6)
          obtain ⟨l, u, rfl, _, _, q10⟩ := q9.addr q6
          rw [q7] at q8
          injection q8 with q8
          injection q8 with q8
          injection q8 with q8
          subst q8
          have q10 : zoneH (σ.set i (some x)) (env2.set i d) H2 b = none := q10
          rw [qz] at q10
          cases q10
      exact fin
  · rw [List.drop_length] at h2
    unfold lpG at h2
    split at h2
    rotate_left
    · cases h2
    next hol =>
    obtain rfl := Option.some.inj h2
    have R3 := R2.wake hol chg w2 R1.gr (F' := fun _ => none) (fun b o h => (by cases h)) (fun _ _ _ _ _ => rfl) fun b xs h => (by cases h)
    exact p _ H2 σ (g1.f.trans (s2.trans un_left)) R3
theorem EN.of {K : PySem.W.Frag} {F H : Hp} {σ : L2.St} {env : En} (E : ER K z F H σ env) (h : (env.all fun d => !d.isOwn) = true) : EN K z.ct F H σ env := ⟨E.len, E.sub, fun i d hi hu => by
  obtain ⟨v, h1, h2⟩ := E.ent i d hi hu
  refine ⟨v, h1, h2.rep ?_ hu⟩
  have q := List.all_eq_true.mp h d (List.mem_of_getElem? hi)
  simpa using q⟩
/-- [.. for x in g(..)] -/
theorem f_lcG (i : Nat) {f : En → Option D} {x : Str} {px : Pos} {ge elt : Expr} {scope : Scope} {own : List (Str × Nat)} (hg : PGW X k ge (tgD X.K z fn ag)) (hxe : ∀ e s, X.xe e s → False) (hc : X.calm = true) (hr : Room (k + 1) X.A) (hN : X.N.Nodup) (ok : BlkOk X.N X.env.scope scope own) (how : own.map (·.2) = [i])
    (hcl : ∀ n, cellsFrom n scope.names (cloFrom X.env.cells scope.names []) = [])
    (hgt : ∀ (s : Shared) (H : Hp) (C : Addr) (cl : List (Str × Addr)) (fp : List Addr), PG (X.blk s H scope (compEnvC scope cl C X.env) fp) (.Name x px) (gName i))
    (he : ∀ (s : Shared) (H : Hp) (C : Addr) (cl : List (Str × Addr)) (fp : List Addr) F0 H0, PE (X.blk s H scope (compEnvC scope cl C X.env) fp) elt (tD X.K ⟨z.ct, F0, H0, 0⟩ f)) (hs : ∀ x, foldedSetIterable ge X.env x = pure x := by intro _; rfl) :
    PE X (.ListComp elt [⟨.Name x px, ge, [], 0⟩] scope pos) (tF X.K z (lcG fn ag i f)) := pe_imp (pe_lcG hxe hc hr hN hg ok hcl hgt (te := dU X.K z.ct f) (fun s H C cl fp => pe_dU (fun F0 H0 => he s H C cl fp F0 H0)) hs) fun σ H Q ⟨F, env, R, rs, hd, kq⟩ => by
  unfold lcG at hd
  split at hd
  rotate_left
  · cases hd
  next hno =>
  obtain ⟨all, h1, hd⟩ := bnd_some hd
  have hl : all.length ≤ 5000 := by
    obtain ⟨all', h0, h1⟩ := bnd_some h1
    split at h1
    · next h =>
      obtain rfl := Option.some.inj h1
      exact h
    · cases h1
  rw [how]
  refine ⟨F, env, R, all, h1, fun F1 H1 g1 L nL => ?_⟩
  have E1 := (EN.of (R.grow g1) hno).hide i none
  refine ⟨fun k W H => ∃ acc done rest F2, EN X.K z.ct F2 H (wipe σ [i]) (wipeE env [i]) ∧ Grow F1 H1 F2 H ∧ H L = some (.lst acc) ∧ F2 L = none ∧ Reps X.K z.ct F2 acc done ∧ done.length = k ∧ lcGL i f (wipeE env [i]) (all.drop k) = some rest ∧ done ++ rest = rs ∧ ∀ b ∈ W, H1 b = none ∧ F2 b = none ∧ b ≠ L, ?_, fun k W H ⟨acc, _, _, _, _, _, h, _⟩ => ⟨acc, h⟩, fun k W H x H2 W1 ⟨acc, done, rest, F2, E2, G2, hL, nF, ra, hdl, hrest, hrs, w2⟩ hk ⟨d, F', hat, rd, t, ap, n⟩ chg hW => ?_, fun W H H2 ⟨acc, done, rest, F2, E2, G2, hL, nF, ra, hdl, hrest, hrs, w2⟩ chg => ?_⟩
  · have ga := Grow.apart (o := .lst []) g1.s nL
    exact ⟨[], [], rs, F1, by rw [show wipeE env [i] = env.set i .unb from stR_eq ..]; exact E1.grow ga.f ga.s, ga, upd_same, g1.s.free nL, .nil, rfl, hd, rfl, fun b hb => (by cases hb)⟩
  · have hlt : k < all.length := (List.getElem?_eq_some_iff.mp hat).1
    rw [List.drop_eq_getElem_cons hlt] at hrest
    have e1 : all[k] = d := by
      rw [List.getElem?_eq_getElem hlt] at hat
      exact Option.some.inj hat
    rw [e1] at hrest
    obtain ⟨r, h3, hrest⟩ := bnd_some hrest
    obtain ⟨rest', h4, hrest⟩ := bnd_some hrest
    obtain rfl := Option.some.inj hrest
    have sF : Same F2 H2 := chg_same chg E2.sub fun b hb => (w2 b hb).2.1
    have s1 : Same H1 H2 := chg_same chg G2.h fun b hb => (w2 b hb).1
    have G3 : Grow F1 H1 (un F2 F') H2 := un_grow G2 (Grow.refl g1.s) s1 sF t ap.off n
    have E3 := E2.grow (un_left (F' := F')) (un_sub sF t)
    have hL2 : H2 L = some (.lst acc) := chg.same _ _ hL fun hb => (w2 L hb).2.2 rfl
    have nF3 : un F2 F' L = none := un_no (W1 := W1) nF hL2 t n
    have nLW : L ∉ W1 := fun hb => by
      rcases (hW L hb).1 with q | q
      · exact (w2 L q).2.2 rfl
      · rw [hL] at q
        cases q
    refine ⟨?_, Mild.refl _ _, (E3.set i (rd.mono (un_right sF t))).d h3 fun F4 H4 y g4 r4 => ⟨Mild.of_same g4.h, nLW, acc, g4.h _ _ hL2, ?_, acc ++ [y], done ++ [r], rest', F4, ?_, ?_, upd_same, ?_, (ra.mono (un_left.trans g4.f)).append (.cons r4 .nil), by rw [List.length_append, hdl]; rfl, h4, by rw [List.append_assoc]; exact hrs, fun b hb => ?_⟩⟩
    · show ((σ.set i none).set i (some x)).set i none = σ.set i none
      rw [List.set_set, List.set_set]
    · rw [ra.length, hdl]
      exact Nat.lt_of_lt_of_le hlt (small5 hl)
    · have nF4 := g4.n _ _ hL2 (fun _ q => by cases q) nF3
      exact (E3.grow g4.f g4.s).grow (.refl _) fun b o hb => by
        rw [upd_ne (ne_of_none hb nF4)]
        exact g4.s _ _ hb
    · have nF4 := g4.n _ _ hL2 (fun _ q => by cases q) nF3
      have G4 := G3.trans g4
      exact ⟨G4.f, fun b o hb => by
        rw [upd_ne (ne_of_none hb nL)]
        exact G4.h _ _ hb, fun b o hb => by
        rw [upd_ne (ne_of_none hb nF4)]
        exact G4.s _ _ hb, G4.n⟩
    · exact g4.n _ _ hL2 (fun _ q => by cases q) nF3
    · obtain ⟨q, ys, hy⟩ := hW b hb
      refine ⟨?_, ?_, fun e => nLW (e ▸ hb)⟩
      · rcases q with q | q
        · exact (w2 b q).1
        · exact G2.h.free q
      · refine g4.n _ _ hy (fun _ q => by cases q) (un_no (W1 := W1) ?_ hy t n)
        rcases q with q | q
        · exact (w2 b q).2.1
        · exact E2.sub.free q
  · rw [List.drop_length] at hrest
    obtain rfl := Option.some.inj hrest
    rw [List.append_nil] at hrs
    subst hrs
    have sF : Same F2 H2 := chg_same chg E2.sub fun b hb => (w2 b hb).2.1
    have s1 : Same H1 H2 := chg_same chg G2.h fun b hb => (w2 b hb).1
    exact kq F2 H2 L acc (g1.trans ⟨G2.f, s1, sF, G2.n⟩) (g1.h.free nL) (chg.same _ _ hL fun hb => (w2 L hb).2.2 rfl) nF ra
end
end
end DK
/-! GW6 -/
set_option Elab.async false
set_option linter.all false
set_option maxRecDepth 100000
set_option maxHeartbeats 4000000
/-! != of two lists whose items are equal by their own ==. -/
namespace DKT
open PySem PySem.SeqAt
open AutoSeq1 (wpAny_loadPart')
open MeetsSeq MeetsSeq2 MeetsSeq3 SeqRoads2
section
variable {prog : Program} {w : World} {A : Around} {R : Result → Shared → Prop}
theorem ne_turns (l b : Addr) (N : Nat) (I : Nat → Shared → Prop) (hl : GQ.ListI prog w A (fun e s' => R (.error e) s') l b N I)
    (fin : ∀ s, I N s → R (.ok (.ret (.bool false))) s) (k : Nat) : ∀ i : Nat, N - i = k → i ≤ N → ∀ s, I i s →
      wpAny (model prog w) A.in1 (Builtin.«list.__eq__.loop» ⟨[.ref l, .ref b, rawInt i, rawInt 3], []⟩) (GQ.FinOf prog w A R) (fun e s' => R (.error e) s') s := by
  induction k with
  | zero =>
    intro i hk hi s h
    obtain ⟨xs, ys, n, n2, hl1, hb1, hs1, hs2, _⟩ := hl _ _ h
    have hR : R (.ok (.ret (.bool false))) s := fin s ((by omega : i = N) ▸ h)
    obtain ⟨hp, g, d, tk, os⟩ := s
    wp_walk using wpAny_loadPart' hl1, wpAny_loadPart' hb1
    have j1 : xs[((i : Nat) : Int).toNat]? = none := by simp; omega
    have j2 : ys[((i : Nat) : Int).toNat]? = none := by simp; omega
    rw [j1, j2]
    wp_walk using wpAny_loadPart' hl1, wpAny_loadPart' hb1
    show R (.ok (.ret (.bool (xs.size != ys.size)))) _
    rw [hs1, hs2]
    simpa using hR
  | succ k ih =>
    intro i hk hi s h
    obtain ⟨xs, ys, n, n2, hl1, hb1, hs1, hs2, turn⟩ := hl _ _ h
    have k1 : i < xs.size := by omega
    have k2 : i < ys.size := by omega
    have ht := turn k1 k2
    obtain ⟨hp, g, d, tk, os⟩ := s
    wp_walk using wpAny_loadPart' hl1, wpAny_loadPart' hb1
    have j1 : xs[((i : Nat) : Int).toNat]? = some xs[i] := by simp [k1]
    have j2 : ys[((i : Nat) : Int).toNat]? = some ys[i] := by simp [k2]
    have hc : ((i : Int) + 1) = ((i + 1 : Nat) : Int) := by omega
    rw [j1, j2]
    refine wpAny_bind (wpAny_mono ht (fun r s2 h2 => ?_) fun _ _ x => x)
    obtain ⟨hr, h2⟩ := h2
    subst hr
    have hrec := ih (i + 1) (by omega) (by omega) s2 h2
    obtain ⟨hp2, g2, d2, tk2, os2⟩ := s2
    wp_walk
    rw [hc]
    exact ⟨plainId_quiet plain_eq_loop _, codeAny_builtin entry_eq_loop (by
      rw [Around.under_plainId plain_eq_loop _]
      exact hrec)⟩
theorem ne_lists (l b : Addr) (N : Nat) (I : Nat → Shared → Prop) (hl : GQ.ListI prog w A (fun e s' => R (.error e) s') l b N I)
    (fin : ∀ s, I N s → R (.ok (.ret (.bool false))) s) {s : Shared} (h : I 0 s) :
    wpAny (model prog w) A.in1 (Builtin.«list.__ne__» ⟨[.ref l, .ref b], []⟩) (GQ.FinOf prog w A R) (fun e s' => R (.error e) s') s := by
  obtain ⟨xs, ys, n, n2, hl1, hb1, hs1, hs2, _⟩ := hl _ _ h
  have hrec := ne_turns (A := A) (R := R) l b N I hl fin _ 0 rfl (Nat.zero_le _) s h
  obtain ⟨hp, g, d, tk, os⟩ := s
  have f3 := AutoSeq1.sub_list_list
  have hne : ¬ (xs.size != ys.size) = true := by simp [hs1, hs2]
  wp_walk using wpAny_loadPart' hl1, wpAny_loadPart' hb1
  exact ⟨plainId_quiet plain_eq_loop _, codeAny_builtin entry_eq_loop (by
    rw [Around.under_plainId plain_eq_loop _]
    exact hrec)⟩
end
theorem rc_neL {prog : Program} {w : World} {A : Around} {E : Value → Shared → Prop} {s : Shared} {l b : Addr} {N : Nat} {Q : Value → Shared → Prop} (hu : A.units < cLine) (I : Nat → Shared → Prop) (hl : GQ.ListI prog w A E l b N I)
    (fin : ∀ s, I N s → Q (.bool false) s) (h : I 0 s) : wpAny (model prog w) A (richCompare .NotEq (.ref l) (.ref b)) Q E s := by
  obtain ⟨xs, ys, n, n2, hl1, hb1, _, _, _⟩ := hl _ _ h
  refine wpAny_richCompare_same_room (op := .NotEq) ⟨_, hl1, rfl⟩ ⟨_, hb1, rfl⟩ F.slot_list_ne (GQ.call_here F.slot_list_ne ⟨_, hl1, rfl⟩ F.entry_list_ne (F.args_list_ne_2 _ _) ?_) hu
  exact ne_lists (R := wants (fun v s' => v ≠ .notImplemented ∧ Q v s') E) l b N I hl (fun s' q => ⟨(fun x => nomatch x), fin s' q⟩) h
end DKT
namespace DK
noncomputable section
open PySem PySem.Spec PyProof.Rows L2 GL
open SlX (Slt SlO slH putS Slot1 SIsi)
/-- instances of the class at C, equal by fn -/
def DEq (K : PySem.W.Frag) (ct : Nat → Addr) (C : Addr) (fn : List D → Option D) : Eqv := fun x y H => ∃ a dx vs b dy ws F p q, x = .ref a ∧ y = .ref b ∧ Slt H a C dx vs ∧ Slt H b C dy ws ∧ Same F H ∧ Rep K ct F x p ∧ Rep K ct F y q ∧ fn [p, q] = some (.bl true)
theorem mon_DEq {K : PySem.W.Frag} {ct : Nat → Addr} {C : Addr} {fn : List D → Option D} : Mon (DEq K ct C fn) := fun x y H H' e ⟨a, dx, vs, b, dy, ws, F, p, q, h1, h2, h3, h4, h5, h6⟩ => ⟨a, dx, vs, b, dy, ws, F, p, q, h1, h2, same_slt e h3, same_slt e h4, Same.trans h5 e, h6⟩
theorem rcG_DEq {X : Cx} {ct : Nat → Addr} {C g : Addr} {n : Nat} {fn : List D → Option D} (F : Met X.prog X.w X.K X.mg X.base ct n g fn) (hs : PySem.W.findIn X.K (.ref C) "__eq__" = some (some (.ref g))) (hf : PySem.W.isFn X.K (.ref g) = true) : RcG X n (DEq X.K ct C fn) := by
  intro A pins s σ H x y u v sb I rx ry d
  obtain ⟨a, dx, vs, b, dy, ws, F0, p, q, rfl, rfl, ha, hb, hF, rp, rq, hd⟩ := d
  cases (show u = Value.ref a from rx)
  cases (show v = Value.ref b from ry)
  obtain ⟨sl, od, _, J, _⟩ := SlX.slt_inst I ha
  obtain ⟨sl', od', _, J', _⟩ := SlX.slt_inst I hb
  obtain ⟨m, hFr⟩ := I.fr
  refine PySem.W.cmp_K (op := .Eq) (tb := .ref C) sb.room.units0 hFr I.ok.mod.kin J J'.type (by simp [PySem.W.notFirst]) hs hf ?_
  have e0 : Env0 X.prog X.w X.K X.mg X.base A X.stack s H := by
    have e := I.env0
    exact ⟨by rw [sb.fr]; exact e.frames, e.mod, e.bs, e.bsz, e.funs, e.frf, e.hok, e.bare⟩
  have r2 : Vals [V.ref a, V.ref b] [Value.ref a, Value.ref b] := .cons rfl (.cons rfl .nil)
  refine wpAny_call (codeAny_mono (F A X.stack s H [.ref a, .ref b] [.ref a, .ref b] (fun v H' => v = .bl true ∧ Ext H H') E0 sb.room e0 r2 ⟨F0, [p, q], hF, .cons rp (.cons rq .nil), _, hd, fun F' H' v g r => ⟨rep_bl r, g.h⟩⟩) fun r s' hq => ?_)
  cases r with
  | error e => exact pass0 pins σ H s e s' I hq
  | ok fl =>
    cases fl with
    | ret w =>
      obtain ⟨z, H', I', rz, ez, ex⟩ := I.after hq
      subst ez
      cases rz
      exact ⟨rfl, H', I', ex⟩
    | next => exact False.elim hq
    | brk => exact False.elim hq
    | cont => exact False.elim hq
theorem eqG_DEq {X : Cx} {ct : Nat → Addr} {C g : Addr} {n : Nat} {fn : List D → Option D} (F : Met X.prog X.w X.K X.mg X.base ct n g fn) (hs : PySem.W.findIn X.K (.ref C) "__eq__" = some (some (.ref g))) (hf : PySem.W.isFn X.K (.ref g) = true) : EqG X n (DEq X.K ct C fn) :=
  (rcG_DEq F hs hf).eqG fun _ _ _ ⟨a, _, _, b, _, _, _, _, _, h1, h2, _⟩ => ⟨a, b, h1, h2⟩
def rNeL (D : Eqv) : R2 := fun x y H Q => DList D x y H ∧ ∀ H', Ext H H' → Q (.bl false) H'
theorem op_neL {X : Cx} {n : Nat} {D : Eqv} (hD : Mon D) (h : EqG X n D) (hr : Room (n + 1) X.A) : OpR X (compareOp .NotEq) (rNeL D) := by
  intro pins s σ H x y v u Q I rx ry hq
  obtain ⟨d, q⟩ := hq
  obtain ⟨a, b, xs, ys, rfl, rfl, ha, hb, p⟩ := d
  cases rx
  cases ry
  show wpAny (model X.prog X.w) X.A (richCompare .NotEq (.ref a) (.ref b)) (EP X pins σ Q) X.xe s
  have sb : Sub X (n + 1) X.A := ⟨hr, rfl⟩
  refine DKT.rc_neL (N := xs.length) hr.units0 (fun _ s' => LoopI X pins σ H s') (fun i s' q => ?_) (fun s' q' => ?_) ⟨H, I, Ext.rfl'⟩
  · obtain ⟨H1, I1, e1⟩ := id q
    obtain ⟨z, its, k, r, e⟩ := I1.hok a _ (e1 _ _ ha)
    obtain ⟨z2, its2, k2, r2, e2⟩ := I1.hok b _ (e1 _ _ hb)
    refine ⟨its.toArray, its2.toArray, k, k2, e, e2, by rw [List.size_toArray, ← r.length], by rw [List.size_toArray, ← r2.length, ← p.1], fun h1 h2 => ?_⟩
    exact turnG hD h sb p r r2 i h1 h2 s' q
  · obtain ⟨H', I', e⟩ := q'
    exact ⟨.bl false, H', I', rfl, q H' e⟩
def isBT : Option D → Bool
  | some (.bl true) => true
  | _ => false
def eqsO (c : Nat) (fn : List D → Option D) : List D → List D → Bool
  | [], [] => true
  | .obj a ds :: ps, .obj b es :: qs => a == c && b == c && isBT (fn [.obj a ds, .obj b es]) && eqsO c fn ps qs
  | _, _ => false
/-- the items are equal by their own ==, one by one -/
def neO (c : Nat) (fn : List D → Option D) : D → D → Option D
  | .lst ps, .lst qs => if eqsO c fn ps qs then some (.bl false) else none
  | _, _ => none
theorem isBT_eq {x : Option D} (h : isBT x = true) : x = some (.bl true) := by
  unfold isBT at h
  split at h
  · rfl
  · cases h
theorem prs_of {K : PySem.W.Frag} {ct : Nat → Addr} {c : Nat} {fn : List D → Option D} {F H : Hp} (s : Same F H) : ∀ {ps qs : List D} {xs ys : List V}, eqsO c fn ps qs = true → Reps K ct F xs ps → Reps K ct F ys qs → Prs (DEq K ct (ct c) fn) xs ys H
  | [], [], _, _, _, .nil, .nil => Prs.nil
  | [], _ :: _, _, _, h, _, _ => by simp [eqsO] at h
  | p :: _, [], _, _, h, _, _ => by
    cases p <;> simp [eqsO] at h
  | p :: ps, q :: qs, _, _, h, .cons r1 t1, .cons r2 t2 => by
    cases p <;> cases q <;> first | (cases h; done) | skip
    simp only [eqsO, Bool.and_eq_true, beq_iff_eq] at h
    obtain ⟨⟨⟨h1, h2⟩, h3⟩, h4⟩ := h
    subst h1
    subst h2
    refine Prs.cons ?_ (prs_of s h4 t1 t2)
    cases id r1 with
    | obj q1 q2 =>
      cases id r2 with
      | obj q3 q4 => exact ⟨_, _, _, _, _, _, F, _, _, rfl, rfl, same_slt s q1, same_slt s q3, s, r1, r2, isBT_eq h3⟩
theorem op_neLD {K : PySem.W.Frag} {z : Zc} {c : Nat} {fn : List D → Option D} : OpD K z (rNeL (DEq K z.ct (z.ct c) fn)) (neO c fn) := fun F H x y p q d Q s hd r1 r2 k => by
  cases p <;> cases q <;> first | (cases hd; done) | skip
  simp only [neO] at hd
  split at hd
  · next he =>
    obtain rfl := Option.some.inj hd
    cases r1 with
    | lst h1 h2 =>
      cases r2 with
      | lst h3 h4 => exact ⟨⟨_, _, _, _, rfl, rfl, s _ _ h1, s _ _ h3, prs_of s he h2 h4⟩, fun H' e => k F H' _ ⟨.refl _, e, Same.trans s e, fun _ _ _ _ q => q⟩ (.bl _)⟩
  · cases hd
end
end DK
/-! E6 -/
set_option Elab.async false
set_option linter.all false
set_option maxRecDepth 100000
set_option maxHeartbeats 4000000
namespace DK
noncomputable section
open PySem PySem.Spec PyProof.Rows L2
open SlX (Slt SlO slH putS Slot1 SIsi)

section
variable {P : Program} {w : World} {K : PySem.W.Frag} {mg : Str → Option Value} {base : Heap} {ct : Nat → Addr}
theorem sc__law_are_counts_right : FnScope ["_law_rises", "_law_steps", "_law_slope_here", "_law_half", "_law_every", "_law_way", "_law_told", "_law_due", "_law_rows", "_law_one", "_law_two", "_law_row"] ["_law_rises", "_law_steps"] (defScope (topS 73)) := ⟨rfl, rfl, rfl, by decide +kernel, rfl, by decide +kernel, by decide +kernel⟩
def g__law_are_counts_right : En → Option Out := (iSeq (iPar [2, 3] (aCons (makeD 0 m_init_Slope (aCons (vget 0) (aCons (vget 1) aNil))) (aCons (b2 divD (b2 mulD (b2 subD (vget 0) (cst (.int 1))) (b2 subD (vget 1) (cst (.int 1)))) (cst (.int 2))) aNil))) (iSeq (iSet 4 (asLst (callG m_ways (aCons (vget 2) aNil)))) (iSeq (iIf (tst (b2 neD (asLst (lcD (uF itemsOf (vget 4)) [5] (gNm 5) (fun _ => some true) (u1L (onO 1 m_way_text) (vget 5)))) (callD m__law_ways_listed (aCons (vget 0) (aCons (vget 1) aNil))))) (iRet (cst (.bl false))) iNil) (iSeq (iOwn 6 (lcD (uF itemsOf (vget 4)) [5] (gNm 5) (fun _ => some true) (callD m_counts_of (aCons (vget 5) aNil)))) (iFrz 6 (iSeq (iOwn 7 (sml aNil)) (iSeq (iFor (uF itemsOf (vget 4)) (gNm 5) (iSeq (iSet 8 (callD m__law_squares_between (aCons (vget 0) (aCons (vget 1) (aCons (u1L (onO 1 m_way_text) (vget 5)) aNil))))) (iApp 7 (asTup (sml (aCons (callD sumO (aCons (vget 8) aNil)) (aCons (callD lenO (aCons (callD m__law_arm_and_leg (aCons (vget 0) (aCons (vget 1) (aCons (callD m__law_sky_rows (aCons (u1L (onO 1 m_way_text) (vget 5)) aNil)) aNil)))) aNil)) aNil))))))) (iFrz 7 (iSeq (iIf (qOr (tst (b2 neD (vget 6) (vget 7))) (qNot (tst (callD allL (aCons (asLst (lcD (uF itemsOf (vget 6)) [9, 10] (gTp [9, 10]) (fun _ => some true) (b2 leD (b2 addD (vget 9) (vget 10)) (vget 3)))) aNil))))) (iRet (cst (.bl false))) iNil) (iSeq (iIf (tst (b2 (neO 1 m_way_eq) (asLst (lcD (callF zipOf (aCons (vget 4) (aCons (vget 6) aNil))) [5, 11] (gTp [5, 11]) (tst (b2 eqD (b2 ixD (vget 11) (cst (.int 0))) (vget 3))) (vget 5))) (asLst (sml (aCons (callD m_highest (aCons (vget 2) aNil)) aNil))))) (iRet (cst (.bl false))) iNil) (iSeq (iIf (tst (b2 (neO 1 m_way_eq) (asLst (lcD (callF zipOf (aCons (vget 4) (aCons (vget 6) aNil))) [5, 11] (gTp [5, 11]) (tst (b2 eqD (b2 ixD (vget 11) (cst (.int 1))) (vget 3))) (vget 5))) (asLst (sml (aCons (callD m_lowest (aCons (vget 2) aNil)) aNil))))) (iRet (cst (.bl false))) iNil) (iRet (b2 eqD (asLst (callF srtO (aCons (asLst (lcD (uF itemsOf (vget 6)) [11] (gNm 11) (fun _ => some true) (b2 ixD (vget 11) (cst (.int 0))))) aNil))) (asLst (callF srtO (aCons (asLst (lcD (uF itemsOf (vget 6)) [11] (gNm 11) (fun _ => some true) (b2 ixD (vget 11) (cst (.int 1))))) aNil))))))))))))))))
def m__law_are_counts_right : List D → Option D := fnD 2 10 g__law_are_counts_right
theorem ok__law_are_counts_right {f : Addr} {fd : FuncData} (F : Fun K "_law_are_counts_right" "_law_are_counts_right" (topS 73) f fd) (B : Bt mg) (C : Cf K mg ct) (c_Slope : Mak P w K mg base ct 4 "Slope" 0 m_init_Slope) (c_ways : CalG P w K mg base ct 7 "ways" m_ways) {g_way_text : Addr} (p_way_text : Prp K (ct 1) "text" g_way_text ∧ Met P w K mg base ct 1 g_way_text m_way_text) (c__law_ways_listed : Cal P w K mg base ct 1 "_law_ways_listed" m__law_ways_listed) (c_counts_of : Cal P w K mg base ct 5 "counts_of" m_counts_of) (c__law_squares_between : Cal P w K mg base ct 1 "_law_squares_between" m__law_squares_between) (c__law_sky_rows : Cal P w K mg base ct 1 "_law_sky_rows" m__law_sky_rows) (c__law_arm_and_leg : Cal P w K mg base ct 2 "_law_arm_and_leg" m__law_arm_and_leg) (c_highest : Cal P w K mg base ct 5 "highest" m_highest) {g_way_eq : Addr} (q_way_eq : Meth K (ct 1) "__eq__" g_way_eq ∧ Met P w K mg base ct 1 g_way_eq m_way_eq) (c_lowest : Cal P w K mg base ct 5 "lowest" m_lowest) : FnOk P w K mg base CX0 11 f fd ["_law_rises", "_law_steps"] (spD K ct m__law_are_counts_right) :=
  have S := sc__law_are_counts_right; ok_fn (k := 10) F S rfl fun cdv A outer s H E F0 H0 hr => (ss_cons (s_parT (is := [2, 3]) (by decide) (ps_asg (pe_tup (m_cons (d_make c_Slope (hr.mono (by decide)) (a_cons (d_var 0 (pv 0)) (a_cons (d_var 1 (pv 1)) a_nil))) (m_cons (d_div (d_mul (d_sub (d_var 0 (pv 0)) d_int) (d_sub (d_var 1 (pv 1)) d_int)) d_int) m_nil))) (pg_tup rfl (pgs_cons (pg_name (i := 2) S.nd rfl (by first | exact Or.inl rfl | exact Or.inr rfl)) (pgs_cons (pg_name (i := 3) S.nd rfl (by first | exact Or.inl rfl | exact Or.inr rfl)) pgs_nil))))) (ss_cons (s_set 4 S.nd (by first | exact Or.inl rfl | exact Or.inr rfl) (d_ofF (f_listG (g_call c_ways rfl hr.depth (a_cons (d_var 2 (pv 2)) a_nil)) (fun _ _ q => q) rfl (hr.mono (by decide)) rfl B.list (by decide +kernel)))) (ss_cons (s_if (t_cmp (op_neD hr.units) op_neE (d_ofF (f_lc (own := [("_law_way", 5)]) rfl S.nd (p_any (d_var 4 (pv 4))) (blkOk_by (by dsimp only [cxOf, Cx.nox, Cx.wish, envOfC, Cx.blk, compEnvC]; first | decide +kernel | (change blkC _ (relS _ (defScope (topS 73))) _ _ = true; decide +kernel))) (fun _ _ _ _ _ => (g_name 5 S.nd (by first | exact Or.inl rfl | exact Or.inr rfl))) (fun _ _ _ _ _ => q_yes) (fun _ _ _ _ _ => (d_propO C.kWay p_way_text.1 p_way_text.2 (hr.mono (by decide)) (d_var 5 (pv 5)))))) (d_call c__law_ways_listed (hr.mono (by decide)) (a_cons (d_var 0 (pv 0)) (a_cons (d_var 1 (pv 1)) a_nil))) (nomark _)) (ss_one (s_ret d_bl)) ss_nil) (ss_cons (s_ownLc (own := [("_law_way", 5)]) 6 rfl S.nd rfl rfl (sw_true rfl rfl rfl (by decide +kernel)) (p_any (d_var 4 (pv 4))) (blkOk_by (by dsimp only [cxOf, Cx.nox, Cx.wish, envOfC, Cx.blk, compEnvC]; first | decide +kernel | (change blkC _ (relS _ (defScope (topS 73))) _ _ = true; decide +kernel))) (fun _ _ _ _ _ => (g_name 5 S.nd (by first | exact Or.inl rfl | exact Or.inr rfl))) (fun _ _ _ _ _ => q_yes) (fun _ _ _ _ _ => (d_call c_counts_of (hr.mono (by decide)) (a_cons (d_var 5 (pv 5)) a_nil)))) (ss_frz 6 (ss_cons (s_own 7 S.nd (by first | exact Or.inl rfl | exact Or.inr rfl) (f_lst a_nil)) (ss_cons (s_for PassesOwn.never rfl (p_any (d_var 4 (pv 4))) (g_name 5 S.nd (by first | exact Or.inl rfl | exact Or.inr rfl)) (ss_cons (s_set 8 S.nd (by first | exact Or.inl rfl | exact Or.inr rfl) (d_call c__law_squares_between (hr.mono (by decide)) (a_cons (d_var 0 (pv 0)) (a_cons (d_var 1 (pv 1)) (a_cons (d_propO C.kWay p_way_text.1 p_way_text.2 (hr.mono (by decide)) (d_var 5 (pv 5))) a_nil))))) (ss_one (s_app 7 (pe_bm PySem.F.plainAttrs_list PySem.F.slot_list_append PySem.F.type_list_append mt_append (pv 7) (pa_cons (d_tup (a_cons (d_callB (cr_sumO rfl) cl_sumO B.sum (by decide +kernel) (a_cons (d_var 8 (pv 8)) a_nil)) (a_cons (d_callB (call_len_seq.or call_len_str) cl_len B.len PySem.boot_len (a_cons (d_call c__law_arm_and_leg (hr.mono (by decide)) (a_cons (d_var 0 (pv 0)) (a_cons (d_var 1 (pv 1)) (a_cons (d_call c__law_sky_rows (hr.mono (by decide)) (a_cons (d_propO C.kWay p_way_text.1 p_way_text.2 (hr.mono (by decide)) (d_var 5 (pv 5))) a_nil)) a_nil)))) a_nil)) a_nil))) pa_nil)))))) (ss_frz 7 (ss_cons (s_if (PW.pt (w_or (t_cmp (op_neD hr.units) op_neE (d_var 6 (pv 6)) (d_var 7 (pv 7)) (nomark _)) (w_or1 (t_not (t_val (d_callB (cr_all rfl) cl_all B.all (by decide +kernel) (a_cons (d_ofF (f_lc (own := [("_law_one", 9), ("_law_two", 10)]) rfl S.nd (p_any (d_var 6 (pv 6))) (blkOk_by (by dsimp only [cxOf, Cx.nox, Cx.wish, envOfC, Cx.blk, compEnvC]; first | decide +kernel | (change blkC _ (relS _ (defScope (topS 73))) _ _ = true; decide +kernel))) (fun _ _ _ _ _ => (g_tup rfl (gs_cons 9 S.nd (by first | exact Or.inl rfl | exact Or.inr rfl) (gs_cons 10 S.nd (by first | exact Or.inl rfl | exact Or.inr rfl) gs_nil)))) (fun _ _ _ _ _ => q_yes) (fun _ _ _ _ _ => (d_cmp op_le op_leD (d_add (d_var 9 (pv 9)) (d_var 10 (pv 10))) (d_var 3 (pv 3)) (nomark _))))) a_nil))))))) (ss_one (s_ret d_bl)) ss_nil) (ss_cons (s_if (t_cmp (op_neL mon_DEq (eqG_DEq q_way_eq.2 q_way_eq.1.at_ q_way_eq.1.fn) (hr.mono (by decide))) op_neLD (d_ofF (f_lc (own := [("_law_way", 5), ("_law_row", 11)]) rfl S.nd (p_zip B.zip (a_cons (d_var 4 (pv 4)) (a_cons (d_var 6 (pv 6)) a_nil))) (blkOk_by (by dsimp only [cxOf, Cx.nox, Cx.wish, envOfC, Cx.blk, compEnvC]; first | decide +kernel | (change blkC _ (relS _ (defScope (topS 73))) _ _ = true; decide +kernel))) (fun _ _ _ _ _ => (g_tup rfl (gs_cons 5 S.nd (by first | exact Or.inl rfl | exact Or.inr rfl) (gs_cons 11 S.nd (by first | exact Or.inl rfl | exact Or.inr rfl) gs_nil)))) (fun _ _ _ _ _ => q_one (t_cmp (op_eqD hr.units) op_eqE (d_ix (d_var 11 (pv 11)) d_int) (d_var 3 (pv 3)) (nomark _))) (fun _ _ _ _ _ => (d_var 5 (pv 5))))) (d_ofF (f_lst (a_cons (d_call c_highest (hr.mono (by decide)) (a_cons (d_var 2 (pv 2)) a_nil)) a_nil))) (nomark _)) (ss_one (s_ret d_bl)) ss_nil) (ss_cons (s_if (t_cmp (op_neL mon_DEq (eqG_DEq q_way_eq.2 q_way_eq.1.at_ q_way_eq.1.fn) (hr.mono (by decide))) op_neLD (d_ofF (f_lc (own := [("_law_way", 5), ("_law_row", 11)]) rfl S.nd (p_zip B.zip (a_cons (d_var 4 (pv 4)) (a_cons (d_var 6 (pv 6)) a_nil))) (blkOk_by (by dsimp only [cxOf, Cx.nox, Cx.wish, envOfC, Cx.blk, compEnvC]; first | decide +kernel | (change blkC _ (relS _ (defScope (topS 73))) _ _ = true; decide +kernel))) (fun _ _ _ _ _ => (g_tup rfl (gs_cons 5 S.nd (by first | exact Or.inl rfl | exact Or.inr rfl) (gs_cons 11 S.nd (by first | exact Or.inl rfl | exact Or.inr rfl) gs_nil)))) (fun _ _ _ _ _ => q_one (t_cmp (op_eqD hr.units) op_eqE (d_ix (d_var 11 (pv 11)) d_int) (d_var 3 (pv 3)) (nomark _))) (fun _ _ _ _ _ => (d_var 5 (pv 5))))) (d_ofF (f_lst (a_cons (d_call c_lowest (hr.mono (by decide)) (a_cons (d_var 2 (pv 2)) a_nil)) a_nil))) (nomark _)) (ss_one (s_ret d_bl)) ss_nil) (ss_one (s_ret (d_cmp (op_eqD hr.units) op_eqE (d_ofF (f_callB cr_srtO cl_srtO B.sorted (by decide +kernel) (a_cons (d_ofF (f_lc (own := [("_law_row", 11)]) rfl S.nd (p_any (d_var 6 (pv 6))) (blkOk_by (by dsimp only [cxOf, Cx.nox, Cx.wish, envOfC, Cx.blk, compEnvC]; first | decide +kernel | (change blkC _ (relS _ (defScope (topS 73))) _ _ = true; decide +kernel))) (fun _ _ _ _ _ => (g_name 11 S.nd (by first | exact Or.inl rfl | exact Or.inr rfl))) (fun _ _ _ _ _ => q_yes) (fun _ _ _ _ _ => (d_ix (d_var 11 (pv 11)) d_int)))) a_nil))) (d_ofF (f_callB cr_srtO cl_srtO B.sorted (by decide +kernel) (a_cons (d_ofF (f_lc (own := [("_law_row", 11)]) rfl S.nd (p_any (d_var 6 (pv 6))) (blkOk_by (by dsimp only [cxOf, Cx.nox, Cx.wish, envOfC, Cx.blk, compEnvC]; first | decide +kernel | (change blkC _ (relS _ (defScope (topS 73))) _ _ = true; decide +kernel))) (fun _ _ _ _ _ => (g_name 11 S.nd (by first | exact Or.inl rfl | exact Or.inr rfl))) (fun _ _ _ _ _ => q_yes) (fun _ _ _ _ _ => (d_ix (d_var 11 (pv 11)) d_int)))) a_nil))) (nomark _)))))))))))))))
theorem sc__law_are_free_right : FnScope ["_law_rises", "_law_steps", "_law_slope_here", "_law_sums", "_law_shelf", "_law_free", "_law_way"] ["_law_rises", "_law_steps"] (defScope (topS 74)) := ⟨rfl, rfl, rfl, by decide +kernel, rfl, by decide +kernel, by decide +kernel⟩
def g__law_are_free_right : En → Option Out := (iSeq (iPar [2, 3] (aCons (makeD 0 m_init_Slope (aCons (vget 0) (aCons (vget 1) aNil))) (mOwn (sml aNil) aNil))) (iSeq (iForG m_shelves (aCons (vget 2) aNil) 4 (iSeq (iSet 5 (callD m_free_numbers (aCons (vget 4) aNil))) (iSeq (iIf (qOr (tst (b2 neD (asLst (callF lstO (aCons (vget 5) aNil))) (callD m__law_gaps_near (aCons (vget 1) (aCons (callD m__law_rest_makers (aCons (vget 0) (aCons (u1L (onO 2 m_shelf_gaps) (vget 4)) aNil))) (aCons (u1L (onO 2 m_shelf_gaps) (vget 4)) aNil)))))) (tst (b2 neD (b2 ixD (vget 5) (u1 negD (cst (.int 1)))) (cst (.int 0))))) (iRet (cst (.bl false))) iNil) (iSeq (iIf (tst (b2 neD (b2 eqD (callD maxO (aCons (vget 5) aNil)) (cst (.int 0))) (b2 eqD (u1L (onO 2 m_shelf_gaps) (vget 4)) (asTup (sml aNil))))) (iRet (cst (.bl false))) iNil) (iApp 3 (b2 subD (u1L (onO 0 m_slope_half) (vget 2)) (callD sumO (aCons (vget 5) aNil)))))))) (iFrz 3 (iRet (b2 eqD (asLst (callF srtO (aCons (vget 3) aNil))) (asLst (callF srtO (aCons (asLst (lcG m_ways (aCons (vget 2) aNil) 6 (b2 ixD (callD m_counts_of (aCons (vget 6) aNil)) (cst (.int 0))))) aNil))))))))
def m__law_are_free_right : List D → Option D := fnD 2 5 g__law_are_free_right
theorem ok__law_are_free_right {f : Addr} {fd : FuncData} (F : Fun K "_law_are_free_right" "_law_are_free_right" (topS 74) f fd) (B : Bt mg) (C : Cf K mg ct) (c_Slope : Mak P w K mg base ct 4 "Slope" 0 m_init_Slope) (c_shelves : CalG P w K mg base ct 7 "shelves" m_shelves) (c_free_numbers : Cal P w K mg base ct 3 "free_numbers" m_free_numbers) {g_shelf_gaps : Addr} (p_shelf_gaps : Prp K (ct 2) "gaps" g_shelf_gaps ∧ Met P w K mg base ct 1 g_shelf_gaps m_shelf_gaps) (c__law_rest_makers : Cal P w K mg base ct 1 "_law_rest_makers" m__law_rest_makers) (c__law_gaps_near : Cal P w K mg base ct 1 "_law_gaps_near" m__law_gaps_near) {g_slope_half : Addr} (p_slope_half : Prp K (ct 0) "half" g_slope_half ∧ Met P w K mg base ct 2 g_slope_half m_slope_half) (c_ways : CalG P w K mg base ct 7 "ways" m_ways) (c_counts_of : Cal P w K mg base ct 5 "counts_of" m_counts_of) : FnOk P w K mg base CX0 11 f fd ["_law_rises", "_law_steps"] (spD K ct m__law_are_free_right) :=
  have S := sc__law_are_free_right; ok_fn (k := 10) F S rfl fun cdv A outer s H E F0 H0 hr => (ss_cons (s_par2 2 3 (ps_par rfl S.nd rfl rfl (by decide) rfl rfl (m_cons (d_make c_Slope (hr.mono (by decide)) (a_cons (d_var 0 (pv 0)) (a_cons (d_var 1 (pv 1)) a_nil))) (m_own (f_lst a_nil) m_nil)) (by rfl))) (ss_cons (s_forG 4 (g_call c_shelves rfl hr.depth (a_cons (d_var 2 (pv 2)) a_nil)) (fun _ _ q => q) rfl (hr.mono (by decide)) S.nd (by first | exact Or.inl rfl | exact Or.inr rfl) (fun _ _ => (ss_cons (s_set 5 S.nd (by first | exact Or.inl rfl | exact Or.inr rfl) (d_call c_free_numbers (hr.mono (by decide)) (a_cons (d_var 4 (pv 4)) a_nil))) (ss_cons (s_if (PW.pt (w_or (t_cmp (op_neD hr.units) op_neE (d_ofF (f_callTy call_list_of cl_lst B.list (by decide +kernel) (a_cons (d_var 5 (pv 5)) a_nil))) (d_call c__law_gaps_near (hr.mono (by decide)) (a_cons (d_var 1 (pv 1)) (a_cons (d_call c__law_rest_makers (hr.mono (by decide)) (a_cons (d_var 0 (pv 0)) (a_cons (d_propO C.kShelf p_shelf_gaps.1 p_shelf_gaps.2 (hr.mono (by decide)) (d_var 4 (pv 4))) a_nil))) (a_cons (d_propO C.kShelf p_shelf_gaps.1 p_shelf_gaps.2 (hr.mono (by decide)) (d_var 4 (pv 4))) a_nil)))) (nomark _)) (w_or1 (t_cmp (op_neD hr.units) op_neE (d_ix (d_var 5 (pv 5)) (d_neg d_int)) d_int (nomark _))))) (ss_one (s_ret d_bl)) ss_nil) (ss_cons (s_if (t_cmp (op_neD hr.units) op_neE (d_cmp (op_eqD hr.units) op_eqE (d_callB (cr_maxO rfl hr) cl_maxO B.max (by decide +kernel) (a_cons (d_var 5 (pv 5)) a_nil)) d_int (nomark _)) (d_cmp (op_eqD hr.units) op_eqE (d_propO C.kShelf p_shelf_gaps.1 p_shelf_gaps.2 (hr.mono (by decide)) (d_var 4 (pv 4))) (d_tup a_nil) (nomark _)) (nomark _)) (ss_one (s_ret d_bl)) ss_nil) (ss_one (s_app 3 (pe_bm PySem.F.plainAttrs_list PySem.F.slot_list_append PySem.F.type_list_append mt_append (pv 3) (pa_cons (d_sub (d_propO C.kSlope p_slope_half.1 p_slope_half.2 (hr.mono (by decide)) (d_var 2 (pv 2))) (d_callB (cr_sumO rfl) cl_sumO B.sum (by decide +kernel) (a_cons (d_var 5 (pv 5)) a_nil))) pa_nil))))))))) (ss_frz 3 (ss_one (s_ret (d_cmp (op_eqD hr.units) op_eqE (d_ofF (f_callB cr_srtO cl_srtO B.sorted (by decide +kernel) (a_cons (d_var 3 (pv 3)) a_nil))) (d_ofF (f_callB cr_srtO cl_srtO B.sorted (by decide +kernel) (a_cons (d_ofF (f_lcG (own := [("_law_way", 6)]) 6 (g_call c_ways rfl hr.depth (a_cons (d_var 2 (pv 2)) a_nil)) (fun _ _ q => q) rfl (hr.mono (by decide)) S.nd (blkOk_by (by dsimp only [cxOf, Cx.nox, Cx.wish, envOfC, Cx.blk, compEnvC]; first | decide +kernel | (change blkC _ (relS _ (defScope (topS 74))) _ _ = true; decide +kernel))) rfl (fun _ => rfl) (fun _ _ _ _ _ => pg_name (i := 6) S.nd rfl (by first | exact Or.inl rfl | exact Or.inr rfl)) (fun _ _ _ _ _ _ _ => (d_ix (d_call c_counts_of (hr.mono (by decide)) (a_cons (d_var 6 (pv 6)) a_nil)) d_int)))) a_nil))) (nomark _)))))))
end
end
end DK
/-! E7 -/
set_option Elab.async false
set_option linter.all false
set_option maxRecDepth 100000
set_option maxHeartbeats 4000000
namespace DK
noncomputable section
open PySem PySem.Spec PyProof.Rows L2
open SlX (Slt SlO slH putS Slot1 SIsi)
theorem iteT' {c : Bool} {a b : Prop} (h : c = true) (x : a) : if c = true then a else b := by
  rw [if_pos h]
  exact x
theorem iteF' {c : Bool} {a b : Prop} (h : c = false) (x : b) : if c = true then a else b := by
  rw [if_neg (by rw [h]; exact Bool.false_ne_true)]
  exact x
section
variable {P : Program} {w : World} {K : PySem.W.Frag} {mg : Str → Option Value} {base : Heap} {ct : Nat → Addr}
theorem sc_roll : FnScope ["_law_dice_here", "_law_total", "_law_found", "_law_one", "_law_two"] ["_law_dice_here", "_law_total"] (defScope (topS 64)) := ⟨rfl, rfl, rfl, by decide +kernel, rfl, by decide +kernel, by decide +kernel⟩
def spRoll : Sp := fun vs H Q _ => ∃ l a b c t, vs = [.ref l, .int t] ∧ H l = some (.lst [.int a, .int b, .int c]) ∧ 0 < t ∧ t < 1000 ∧ ∀ a' c' r, 0 ≤ r → r < t → Q (.int r) (upd H l (.lst [.int a', .int b, .int c']))
theorem ok_roll {f : Addr} {fd : FuncData} (F : Fun K "_law_roll" "_law_roll" (topS 64) f fd) (B : Bt mg) : FnOk P w K mg base CX0 1 f fd ["_law_dice_here", "_law_total"] spRoll := by
  have S := sc_roll
  refine F.ok (k := 0) S (fun vs H Q E h => ?_) (fun cdv A outer s H vs Q E hr h => ?_)
  · obtain ⟨l, a, b, c, t, rfl, _⟩ := h
    rfl
  obtain ⟨l, a, b, c, t, rfl, hl, h0, h1, q⟩ := h
  refine ⟨_, pss_cons (ps_if (pt_cmpR op_gt (pe_ix ix_list (pv 0) pe_int (by exact fun _ _ => rfl)) pe_int (nomark _))
    (pss_cons (ps_set (i := 2) S.nd rfl (by first | exact Or.inl rfl | exact Or.inr rfl) (pe_op op_mod (pe_callTy call_int1 rfl B.int_ boot_int (pa_cons (pe_ix ix_list (pv 0) pe_int (by exact fun _ _ => rfl)) pa_nil)) (pv 1)))
      (pss_cons (ps_asg (pe_op op_fdiv (pe_ix ix_list (pv 0) pe_int (by exact fun _ _ => rfl)) (pv 1)) (pg_sub (pv 0) pe_int set_list)) (pss_one (ps_ret (pv 2))))) pss_nil)
    (pss_cons (ps_asg (pe_op op_add (pe_ix ix_list (pv 0) pe_int (by exact fun _ _ => rfl)) pe_int) (pg_sub (pv 0) pe_int set_list))
    (pss_cons (ps_set (i := 3) S.nd rfl (by first | exact Or.inl rfl | exact Or.inr rfl) (pe_op op_mod (pe_callTy call_int1 rfl B.int_ boot_int (pa_cons (pe_op op_add (pe_ix ix_list (pv 0) pe_int (by exact fun _ _ => rfl)) (pe_op op_mul pe_int (pe_ix ix_list (pv 0) pe_int (by exact fun _ _ => rfl)))) pa_nil)) pe_int))
    (pss_cons (ps_set (i := 4) S.nd rfl (by first | exact Or.inl rfl | exact Or.inr rfl) (pe_op op_add (pe_op op_mul (pe_op op_mod (pe_callTy call_int1 rfl B.int_ boot_int (pa_cons (pe_op op_add (pe_op op_mul (pv 3) (pv 3)) (pe_op op_mul pe_int (pe_ix ix_list (pv 0) pe_int (by exact fun _ _ => rfl)))) pa_nil)) pe_int) pe_int) (pv 3)))
    (pss_one (ps_ret (pe_op op_mod (pe_callTy call_int1 rfl B.int_ boot_int (pa_cons (pe_op op_fdiv (pv 4) pe_int) pa_nil)) (pv 1))))))), ?_⟩
  refine ⟨.ref l, rfl, l, _, 0, .int a, rfl, rfl, .inl (.inl hl), rfl, a, 0, rfl, rfl, _, rfl, ?_⟩
  by_cases ha : (0 : Int) < a
  · refine iteT' (decide_eq_true ha) ⟨.ref l, rfl, l, _, 0, .int a, rfl, rfl, .inl (.inl hl), rfl, .inl ⟨a, rfl, .int t, rfl, a, t, rfl, rfl, h0, ?_⟩⟩
    refine ⟨.ref l, rfl, l, _, 0, .int a, rfl, rfl, .inl (.inl hl), rfl, .int t, rfl, a, t, rfl, rfl, ⟨h0, by omega⟩, .ref l, rfl, l, _, 0, 0, rfl, rfl, hl, rfl, .int (a % t), rfl, ?_⟩
    exact q (a / t) c (a % t) (Int.emod_nonneg _ (by omega)) (Int.emod_lt_of_pos _ h0)
  · refine iteF' (decide_eq_false ha) ?_
    refine ⟨.ref l, rfl, l, _, 2, .int c, rfl, rfl, .inl (.inl hl), rfl, c, 1, rfl, rfl, .ref l, rfl, l, _, 2, 2, rfl, rfl, hl, rfl, ?_⟩
    have hl2 : (L2.upd H l (.lst [.int a, .int b, .int (c + 1)])) l = some (.lst [.int a, .int b, .int (c + 1)]) := upd_same
    refine ⟨.ref l, rfl, l, _, 1, .int b, rfl, rfl, .inl (.inl hl2), rfl, .ref l, rfl, l, _, 2, .int (c + 1), rfl, rfl, .inl (.inl hl2), rfl, 104395301, c + 1, rfl, rfl, .inl ⟨by decide, by decide⟩, b, 104395301 * (c + 1), rfl, rfl, .inl ⟨_, rfl, _, _, rfl, rfl, by show (0 : Int) < 2305843009213693613; decide, ?_⟩⟩
    refine ⟨_, rfl, _, rfl, _, _, rfl, rfl, .inl ⟨by omega, by omega⟩, .ref l, rfl, l, _, 2, .int (c + 1), rfl, rfl, .inl (.inl hl2), rfl, 107, c + 1, rfl, rfl, .inl ⟨by decide, by decide⟩, _, _, rfl, rfl, .inl ⟨_, rfl, _, _, rfl, rfl, by show (0 : Int) < 2305843009213693519; decide, _, _, rfl, rfl, .inr ⟨by decide, by decide⟩, _, rfl, _, _, rfl, rfl, ?_⟩⟩
    refine ⟨_, rfl, _, _, rfl, rfl, ⟨by decide, by decide⟩, .inl ⟨_, rfl, .int t, rfl, _, _, rfl, rfl, h0, ?_⟩⟩
    exact q a (c + 1) _ (Int.emod_nonneg _ (by omega)) (Int.emod_lt_of_pos _ h0)
/-! _law_slope -/
theorem sc_slope : FnScope ["_law_dice_here", "_law_total", "_law_rises", "_law_steps", "_law_one", "_law_other"] ["_law_dice_here", "_law_total"] (defScope (topS 65)) := ⟨rfl, rfl, rfl, by decide +kernel, rfl, by decide +kernel, by decide +kernel⟩
/-- a slope of at most twelve letters, without a common part -/
def okSl (x y : Int) : Prop := 1 ≤ x ∧ 1 ≤ y ∧ x + y ≤ 12 ∧ Int.gcd x y = 1
def spSlope : Sp := fun vs H Q _ => ∃ l a b c, vs = [.ref l, .int 12] ∧ H l = some (.lst [.int a, .int b, .int c]) ∧ ∀ a' c' x y p, okSl x y → H p = none → Q (.ref p) (upd (upd H l (.lst [.int a', .int b, .int c'])) p (.tup [.int x, .int y]))
theorem gcd_step {u v : Int} (hv : 0 < v) (hu : 0 ≤ u) : Int.gcd v (u - u / v * v) = Int.gcd u v := by
  have e : u - u / v * v = u % v := by
    have := Int.emod_add_mul_ediv u v
    rw [Int.mul_comm]
    omega
  rw [e, Int.gcd_comm u v]
  rw [← e]
  have := Int.gcd_sub_mul_right_right v u (u / v)
  first
    | (rw [Int.gcd_comm u v, ← this]; congr 1; done)
    | (rw [← this, Int.mul_comm])
    | (simpa [Int.gcd_comm] using this)
theorem okSl_of {x y u : Int} (hx : 1 ≤ x) (hy : 1 ≤ y) (hs : x + y ≤ 12) (hu : u = Int.gcd x y) : okSl (x / u) (y / u) := by
  have g0 : 0 < Int.gcd x y := Int.gcd_pos_of_ne_zero_left _ (by omega)
  have up : 0 < u := by omega
  have dx : u ∣ x := hu ▸ Int.gcd_dvd_left ..
  have dy : u ∣ y := hu ▸ Int.gcd_dvd_right ..
  have ux : u ≤ x := Int.le_of_dvd (by omega) dx
  have uy : u ≤ y := Int.le_of_dvd (by omega) dy
  have a1 : 1 ≤ x / u := (Int.le_ediv_iff_mul_le up).mpr (by omega)
  have a2 : 1 ≤ y / u := (Int.le_ediv_iff_mul_le up).mpr (by omega)
  have b1 : x / u ≤ x := Int.ediv_le_self _ (by omega)
  have b2 : y / u ≤ y := Int.ediv_le_self _ (by omega)
  refine ⟨a1, a2, by omega, ?_⟩
  subst hu
  exact Int.gcd_ediv_gcd_ediv_gcd g0
theorem ok_slope {f : Addr} {fd : FuncData} (F : Fun K "_law_slope" "_law_slope" (topS 65) f fd) (B : Bt mg) {fr : Addr} {fdr : FuncData} (G : FnOk P w K mg base CX0 1 fr fdr ["_law_dice_here", "_law_total"] spRoll) (hm : mg "_law_roll" = some (.ref fr)) (hk : PySem.W.keepIn K (.ref fr) = true) (hb : Binds K fdr ["_law_dice_here", "_law_total"] []) : FnOk P w K mg base CX0 2 f fd ["_law_dice_here", "_law_total"] spSlope := by
  have S := sc_slope
  refine F.ok (k := 1) S (fun vs H Q E h => ?_) (fun cdv A outer s H vs Q E hr h => ?_)
  · obtain ⟨l, a, b, c, rfl, _⟩ := h
    rfl
  obtain ⟨l, a, b, c, rfl, hl, q⟩ := h
  refine ⟨_, pss_cons (ps_set (i := 2) S.nd rfl (by first | exact Or.inl rfl | exact Or.inr rfl) (pe_op op_add pe_int (pe_call G hr rfl hm hk hb .nil pass0 (pa_cons (pv 0) (pa_cons (pe_op op_sub (pv 1) pe_int) pa_nil)))))
    (pss_cons (ps_set (i := 3) S.nd rfl (by first | exact Or.inl rfl | exact Or.inr rfl) (pe_op op_add pe_int (pe_call G hr rfl hm hk hb .nil pass0 (pa_cons (pv 0) (pa_cons (pe_op op_sub (pv 1) (pv 2)) pa_nil)))))
    (pss_cons (ps_par (i := 4) (j := 5) rfl S.nd rfl rfl (by decide) rfl rfl (pa_cons (pv 2) (pa_cons (pv 3) pa_nil)) (by rfl))
    (pss_cons (ps_while PassesOwn.never (pt_cmpR op_gt (pv 5) pe_int (nomark _)) (pss_one (ps_par (i := 4) (j := 5) rfl S.nd rfl rfl (by decide) rfl rfl (pa_cons (pv 5) (pa_cons (pe_op op_sub (pv 4) (pe_op op_mul (pe_op op_fdiv (pv 4) (pv 5)) (pv 5))) pa_nil)) (by rfl))))
    (pss_one (ps_ret (pe_tup (pa_cons (pe_op op_fdiv (pv 2) (pv 4)) (pa_cons (pe_op op_fdiv (pv 3) (pv 4)) pa_nil)))))))), ?_⟩
  refine ⟨.ref l, rfl, .int 12, rfl, 12, 1, rfl, rfl, l, a, b, c, 12 - 1, rfl, hl, by decide, by decide, fun a1 c1 r1 r0 r2 => ?_⟩
  refine ⟨1, r1, rfl, rfl, ?_⟩
  have hl1 : (L2.upd H l (.lst [.int a1, .int b, .int c1])) l = some (.lst [.int a1, .int b, .int c1]) := upd_same
  refine ⟨.ref l, rfl, .int 12, rfl, .int (1 + r1), rfl, 12, 1 + r1, rfl, rfl, l, a1, b, c1, 12 - (1 + r1), rfl, hl1, by omega, by omega, fun a2 c2 r3 r4 r5 => ?_⟩
  refine ⟨1, r3, rfl, rfl, ?_⟩
  refine ⟨.int (1 + r1), rfl, .int (1 + r3), rfl, _, _, rfl, ?_⟩
  have hx : 1 ≤ 1 + r1 := by omega
  have hy : 1 ≤ 1 + r3 := by omega
  have hs : (1 + r1) + (1 + r3) ≤ 12 := by omega
  obtain ⟨x, ex⟩ : ∃ x, 1 + r1 = x := ⟨_, rfl⟩
  obtain ⟨y, ey⟩ : ∃ y, 1 + r3 = y := ⟨_, rfl⟩
  rw [ex] at hx hs
  rw [ey] at hy hs
  have hH : L2.upd (L2.upd H l (.lst [.int a1, .int b, .int c1])) l (.lst [.int a2, .int b, .int c2]) = L2.upd H l (.lst [.int a2, .int b, .int c2]) := by
    funext k
    by_cases hk : k = l
    · subst hk
      rw [upd_same, upd_same]
    · rw [upd_ne hk, upd_ne hk, upd_ne hk]
  refine ⟨fun m σ H1 => ∃ u v : Int, σ = [some (.ref l), some (.int 12), some (.int x), some (.int y), some (.int u), some (.int v)] ∧ H1 = L2.upd H l (.lst [.int a2, .int b, .int c2]) ∧ 0 ≤ v ∧ v ≤ 12 ∧ m = v.toNat ∧ 0 < u ∧ u ≤ 12 ∧ Int.gcd u v = Int.gcd x y, ⟨_, x, y, by rw [← ex, ← ey]; rfl, hH, by omega, by omega, rfl, by omega, by omega, rfl⟩, fun m σ H1 ⟨u, v, e1, e2, v0, v1, e3, u0, u1, e4⟩ => ?_⟩
  subst e1 e2 e3
  refine ⟨.int v, rfl, v, 0, rfl, rfl, _, rfl, ?_⟩
  by_cases hv : 0 < v
  · refine iteT' (decide_eq_true hv) ⟨fun σ H1 => ∃ u' v' : Int, σ = [some (.ref l), some (.int 12), some (.int x), some (.int y), some (.int u'), some (.int v')] ∧ H1 = L2.upd H l (.lst [.int a2, .int b, .int c2]) ∧ 0 ≤ v' ∧ v' < v ∧ 0 < u' ∧ u' ≤ 12 ∧ Int.gcd u' v' = Int.gcd x y, fun σ' H' ⟨u', v', w1, w2, w3, w4, w5, w6, w7⟩ => ⟨v'.toNat, by omega, u', v', w1, w2, w3, by omega, rfl, w5, w6, w7⟩, ?_⟩
    have q1 : u / v ≤ 12 := Int.le_trans (Int.ediv_le_self _ (by omega)) u1
    have q2 : 0 ≤ u / v := Int.ediv_nonneg (by omega) (by omega)
    have q3 : u - u / v * v = u % v := by
      have := Int.emod_add_mul_ediv u v
      rw [Int.mul_comm]
      omega
    refine ⟨.int v, rfl, .int u, rfl, .int u, rfl, .int v, rfl, u, v, rfl, rfl, ⟨hv, by omega⟩, .int v, rfl, u / v, v, rfl, rfl, .inl ⟨by omega, by omega⟩, u, u / v * v, rfl, rfl, _, _, rfl, ?_⟩
    exact ⟨v, u - u / v * v, rfl, rfl, by rw [q3]; exact Int.emod_nonneg _ (by omega), by rw [q3]; exact Int.emod_lt_of_pos _ hv, hv, by omega, by rw [gcd_step hv (by omega)]; exact e4⟩
  · have hz : v = 0 := by omega
    subst hz
    refine iteF' (decide_eq_false hv) ?_
    have hu : u = Int.gcd x y := by
      rw [← e4, Int.gcd_zero_right]
      omega
    refine ⟨.int x, rfl, .int u, rfl, x, u, rfl, rfl, ⟨u0, by omega⟩, .int y, rfl, .int u, rfl, y, u, rfl, rfl, ⟨u0, by omega⟩, (show 2 ≤ sizeLine by decide), fun p np => ?_⟩
    refine q a2 c2 _ _ p (okSl_of hx hy hs hu) ?_
    by_cases hp : p = l
    · subst hp
      rw [upd_same] at np
      cases np
    · rw [upd_ne hp] at np
      exact np
end
end
end DK
/-! E8 -/
set_option Elab.async false
set_option linter.all false
set_option maxRecDepth 100000
set_option maxHeartbeats 4000000
namespace DK
noncomputable section
open PySem PySem.Spec PyProof.Rows L2
open SlX (Slt SlO slH putS Slot1 SIsi)
theorem mul60 : CMulW ((10 : Int) ^ Int.toNat 60) ((10 : Int) ^ Int.toNat 60) := by
  unfold CMulW
  decide +kernel
theorem pos60 : (0 : Int) < (10 : Int) ^ Int.toNat 60 * (10 : Int) ^ Int.toNat 60 := by decide +kernel
section
variable {P : Program} {w : World} {K : PySem.W.Frag} {mg : Str → Option Value} {base : Heap} {ct : Nat → Addr}
theorem sc_dice : FnScope ["_law_script", "_law_spot", "_law_cell", "_law_left"] ["_law_script", "_law_spot"] (defScope (topS 63)) := ⟨rfl, rfl, rfl, by decide +kernel, rfl, by decide +kernel, by decide +kernel⟩
def spDice (K : PySem.W.Frag) : Sp := fun vs H Q _ => ∃ (sc : Addr) (ns : List Int) (k : Int), vs = [.ref sc, .int k] ∧ SqL K H sc (ns.map V.int) ∧ 0 ≤ k ∧ k < 2 ∧ ∀ p a b, H p = none → Q (.ref p) (upd H p (.lst [.int a, .int b, .int 0]))
theorem ok_dice {f : Addr} {fd : FuncData} (F : Fun K "_law_dice" "_law_dice" (topS 63) f fd) (B : Bt mg) : FnOk P w K mg base CX0 1 f fd ["_law_script", "_law_spot"] (spDice K) := by
  have S := sc_dice
  refine F.ok (k := 0) S (fun vs H Q E h => ?_) (fun cdv A outer s H vs Q E hr h => ?_)
  · obtain ⟨sc, ns, k, rfl, _⟩ := h
    rfl
  obtain ⟨sc, ns, k, rfl, hs, h0, h1, q⟩ := h
  refine ⟨_, pss_cons (ps_set (i := 2) S.nd rfl (by first | exact Or.inl rfl | exact Or.inr rfl) (pe_ifExp (pt_cmpR op_lt (pv 1) (pe_callB call_len_seq rfl B.len PySem.boot_len (pa_cons (pv 0) pa_nil)) (nomark _)) (pe_callTy call_int1 rfl B.int_ boot_int (pa_cons (pe_ix ix_list (pv 0) (pv 1) (by exact fun _ _ => rfl)) pa_nil)) (pe_op op_add (pe_op op_mul pe_int (pv 1)) pe_int)))
    (pss_cons (ps_set (i := 3) S.nd rfl (by first | exact Or.inl rfl | exact Or.inr rfl) (pe_op op_mod (pe_callB (call_max2 rfl) rfl B.max (by decide +kernel) (pa_cons pe_int (pa_cons (pe_op op_sub (pe_callB call_abs rfl B.abs (by decide +kernel) (pa_cons (pv 2) pa_nil)) (pe_op op_pow pe_int pe_int)) pa_nil))) (pe_op op_mulW (pe_op op_pow pe_int pe_int) (pe_op op_pow pe_int pe_int))))
    (pss_one (ps_ret (pe_lst (pa_cons (pv 3) (pa_cons (pe_op op_add (pe_op op_add (pe_op op_add (pe_op op_mul (pe_op op_mod (pe_callB call_abs rfl B.abs (by decide +kernel) (pa_cons (pv 2) pa_nil)) pe_int) pe_int) (pe_op op_mul pe_int (pv 1))) (pe_op op_mul pe_int (pe_callTy call_int1 rfl B.int_ boot_int (pa_cons (pe_cmpR op_lt (pv 2) pe_int (nomark _)) pa_nil)))) pe_int) (pa_cons pe_int pa_nil))))))), ?_⟩
  refine ⟨.int k, rfl, .ref sc, rfl, sc, ns.map V.int, rfl, .inl hs, k, _, rfl, rfl, _, rfl, ?_⟩
  by_cases hk : k < ((ns.map V.int).length : Int)
  · obtain ⟨n, hn⟩ : ∃ n, atI (ns.map V.int) k = some (.int n) := by
      have hlt : k.toNat < ns.length := by
        rw [List.length_map] at hk
        omega
      refine ⟨ns[k.toNat], ?_⟩
      unfold atI ixN
      rw [if_pos h0, if_pos hk]
      show (ns.map V.int)[k.toNat]? = _
      rw [List.getElem?_map, List.getElem?_eq_getElem hlt]
      rfl
    refine iteT' (decide_eq_true hk) ⟨.ref sc, rfl, .int k, rfl, sc, ns.map V.int, k, .int n, rfl, rfl, hs, hn, .inl ⟨n, rfl, ?_⟩⟩
    refine ⟨_, rfl, _, rfl, 10, 16, rfl, rfl, ⟨by decide, by decide, by decide⟩, _, _, rfl, rfl, 0, _, rfl, 10, 60, rfl, rfl, ⟨by decide, by decide, by decide⟩, 10, 60, rfl, rfl, ⟨by decide, by decide, by decide⟩, _, _, rfl, rfl, mul60, _, _, rfl, rfl, pos60, ?_⟩
    refine ⟨_, rfl, _, rfl, _, rfl, _, _, rfl, rfl, by show (0 : Int) < 1152921504606846577; decide, _, _, rfl, rfl, .inr ⟨by decide, by decide⟩, .int k, rfl, 773, k, rfl, rfl, .inl ⟨by decide, by decide⟩, _, _, rfl, rfl, _, rfl, _, 0, rfl, rfl, .inr ⟨_, rfl, 43, _, rfl, rfl, .inl ⟨by decide, by decide⟩, _, _, rfl, rfl, _, _, rfl, rfl, (show 3 ≤ sizeLine by decide), fun p np => q p _ _ np⟩⟩
  · refine iteF' (decide_eq_false hk) ⟨.int k, rfl, 97, k, rfl, rfl, .inl ⟨by decide, by decide⟩, _, 53, rfl, rfl, ?_⟩
    refine ⟨_, rfl, _, rfl, 10, 16, rfl, rfl, ⟨by decide, by decide, by decide⟩, _, _, rfl, rfl, 0, _, rfl, 10, 60, rfl, rfl, ⟨by decide, by decide, by decide⟩, 10, 60, rfl, rfl, ⟨by decide, by decide, by decide⟩, _, _, rfl, rfl, mul60, _, _, rfl, rfl, pos60, ?_⟩
    refine ⟨_, rfl, _, rfl, _, rfl, _, _, rfl, rfl, by show (0 : Int) < 1152921504606846577; decide, _, _, rfl, rfl, .inr ⟨by decide, by decide⟩, .int k, rfl, 773, k, rfl, rfl, .inl ⟨by decide, by decide⟩, _, _, rfl, rfl, _, rfl, _, 0, rfl, rfl, .inr ⟨_, rfl, 43, _, rfl, rfl, .inl ⟨by decide, by decide⟩, _, _, rfl, rfl, _, _, rfl, rfl, (show 3 ≤ sizeLine by decide), fun p np => q p _ _ np⟩⟩
end
end
end DK
/-! E9 -/
set_option Elab.async false
set_option linter.all false
set_option maxRecDepth 100000
set_option maxHeartbeats 4000000
namespace DK
noncomputable section
open PySem PySem.Spec PyProof.Rows L2
open SlX (Slt SlO slH putS Slot1 SIsi)
def q_law : En → Option Bool := (qOr (qNot (tst (callD m__law_are_counts_right (aCons (vget 2) (aCons (vget 3) aNil))))) (qNot (tst (callD m__law_are_free_right (aCons (vget 2) (aCons (vget 3) aNil))))))
def f_law : En → Option D := (eAnd (b2 eqD (u1L (onO 3 m_heap_rows) (callD m_sky (aCons (callD m_highest (aCons (makeD 0 m_init_Slope (aCons (cst (.int 5)) (aCons (cst (.int 7)) aNil))) aNil)) aNil))) (asTup (sml aNil))) (b2 eqD (u1L (onO 3 m_heap_size) (callD m_sky (aCons (callD m_lowest (aCons (makeD 0 m_init_Slope (aCons (cst (.int 5)) (aCons (cst (.int 7)) aNil))) aNil)) aNil))) (cst (.int 12))))
theorem sc_law : FnScope ["_law_script", "_law_spot", "_law_rises", "_law_steps"] ["_law_script"] (defScope (topS 75)) := ⟨rfl, rfl, rfl, by decide +kernel, rfl, by decide +kernel, by decide +kernel⟩
def spLaw (K : PySem.W.Frag) : Sp := fun vs H Q _ => ∃ (sc : Addr) (ns : List Int), vs = [.ref sc] ∧ SqL K H sc (ns.map V.int) ∧ ∀ H', Q (.bl true) H'
/-- what is left to be checked, slope by slope -/
structure Checked : Prop where
  counts : ∀ x y, okSl x y → m__law_are_counts_right [.int x, .int y] = some (.bl true)
  free : ∀ x y, okSl x y → m__law_are_free_right [.int x, .int y] = some (.bl true)
  tail : f_law [.unb, .unb, .unb, .unb] = some (.bl true)
theorem q_law_no {x y : Int} (c : Checked) (h : okSl x y) : q_law [.unb, .unb, .int x, .int y] = some false := by
  have e1 : callD m__law_are_counts_right (aCons (vget 2) (aCons (vget 3) aNil)) [.unb, .unb, .int x, .int y] = some (.bl true) := c.counts x y h
  have e2 : callD m__law_are_free_right (aCons (vget 2) (aCons (vget 3) aNil)) [.unb, .unb, .int x, .int y] = some (.bl true) := c.free x y h
  unfold q_law qOr qNot tst
  rw [e1, e2]
  rfl
section
variable {P : Program} {w : World} {K : PySem.W.Frag} {mg : Str → Option Value} {base : Heap} {ct : Nat → Addr}
theorem en_none {H : Hp} {σ : L2.St} {env : En} (hl : σ.length = env.length) (h : ∀ (i : Nat) (d : D), env[i]? = some d → d ≠ .unb → ∃ n, d = .int n ∧ σ[i]? = some (some (.int n))) : EN K ct (fun _ => none) H σ env := ⟨hl, fun b o q => (by cases q), fun i d hi hu => by
  obtain ⟨n, rfl, e⟩ := h i d hi hu
  exact ⟨_, e, .int n⟩⟩
theorem sql_new {H : Hp} {p sc : Addr} {o : HO} {xs : List V} (h : SqL K H sc xs) (n : H p = none) : SqL K (upd H p o) sc xs := by
  have e : ∀ u, H sc = some u → (upd H p o) sc = some u := fun u hu => by
    rw [upd_ne (ne_of_none hu n)]
    exact hu
  exact h.elim (fun h => .inl (h.elim (fun h => .inl (e _ h)) fun ⟨o, h⟩ => .inr ⟨o, e _ h⟩)) fun h => .inr h
theorem sql_same {H H' : Hp} {sc : Addr} {xs : List V} (h : SqL K H sc xs) (s : Same H H') : SqL K H' sc xs := h.elim (fun h => .inl (h.elim (fun h => .inl (s _ _ h)) fun ⟨o, h⟩ => .inr ⟨o, s _ _ h⟩)) fun h => .inr h
theorem ok_law {f : Addr} {fd : FuncData} (F : Fun K "law" "law" (topS 75) f fd) (B : Bt mg) (C : Cf K mg ct) (c : Checked)
    {fc : Addr} {fdc : FuncData} (Gc : FnOk P w K mg base CX0 1 fc fdc ["_law_script", "_law_spot"] (spDice K)) (hmc : mg "_law_dice" = some (.ref fc)) (hkc : PySem.W.keepIn K (.ref fc) = true) (hbc : Binds K fdc ["_law_script", "_law_spot"] [])
    {fs : Addr} {fds : FuncData} (Gs : FnOk P w K mg base CX0 2 fs fds ["_law_dice_here", "_law_total"] spSlope) (hms : mg "_law_slope" = some (.ref fs)) (hks : PySem.W.keepIn K (.ref fs) = true) (hbs : Binds K fds ["_law_dice_here", "_law_total"] [])
    (c__law_are_counts_right : Cal P w K mg base ct 11 "_law_are_counts_right" m__law_are_counts_right) (c__law_are_free_right : Cal P w K mg base ct 11 "_law_are_free_right" m__law_are_free_right)
    {g_heap_rows : Addr} (p_heap_rows : Prp K (ct 3) "rows" g_heap_rows ∧ Met P w K mg base ct 1 g_heap_rows m_heap_rows) {g_heap_size : Addr} (p_heap_size : Prp K (ct 3) "size" g_heap_size ∧ Met P w K mg base ct 1 g_heap_size m_heap_size)
    (c_sky : Cal P w K mg base ct 6 "sky" m_sky) (c_highest : Cal P w K mg base ct 5 "highest" m_highest) (c_lowest : Cal P w K mg base ct 5 "lowest" m_lowest) (c_Slope : Mak P w K mg base ct 4 "Slope" 0 m_init_Slope) :
    FnOk P w K mg base CX0 12 f fd ["_law_script"] (spLaw K) := by
  have S := sc_law
  refine F.ok (k := 11) S (fun vs H Q E h => ?_) (fun cdv A outer s H vs Q E hr h => ?_)
  · obtain ⟨sc, ns, rfl, _⟩ := h
    rfl
  obtain ⟨sc, ns, rfl, hs, q⟩ := h
  refine ⟨_, pss_cons (ps_for PassesOwn.never rfl (pi_range1 rfl B.range (pa_cons (pe_callB (call_max2 rfl) rfl B.max (by decide +kernel) (pa_cons pe_int (pa_cons (pe_callB (call_min2 rfl) rfl B.min (by decide +kernel) (pa_cons pe_int (pa_cons (pe_callB call_len_seq rfl B.len PySem.boot_len (pa_cons (pv 0) pa_nil)) pa_nil))) pa_nil))) pa_nil)) (pg_name (i := 1) S.nd rfl (by first | exact Or.inl rfl | exact Or.inr rfl))
    (pss_cons (ps_asg (pe_call Gs (hr.mono (by decide)) rfl hms hks hbs .nil pass0 (pa_cons (pe_call Gc (hr.mono (by decide)) rfl hmc hkc hbc .nil pass0 (pa_cons (pv 0) (pa_cons (pv 1) pa_nil))) (pa_cons pe_int pa_nil))) (pg_tup rfl (pgs_cons (pg_name (i := 2) S.nd rfl (by first | exact Or.inl rfl | exact Or.inr rfl)) (pgs_cons (pg_name (i := 3) S.nd rfl (by first | exact Or.inl rfl | exact Or.inr rfl)) pgs_nil))))
    (pss_one (ps_if (pt_qU (f := q_law) (ct := ct) fun F0 H0 => (PW.pt (w_or (t_not (t_val (d_call c__law_are_counts_right (hr.mono (by decide)) (a_cons (d_var 2 (pv 2)) (a_cons (d_var 3 (pv 3)) a_nil))))) (w_or1 (t_not (t_val (d_call c__law_are_free_right (hr.mono (by decide)) (a_cons (d_var 2 (pv 2)) (a_cons (d_var 3 (pv 3)) a_nil))))))))) (pss_one (ps_ret pe_bl)) pss_nil))))
    (pss_one (ps_ret (pe_dU (f := f_law) (ct := ct) fun F0 H0 => (d_and (d_cmp (op_eqD hr.units) op_eqE (d_propO C.kHeap p_heap_rows.1 p_heap_rows.2 (hr.mono (by decide)) (d_call c_sky (hr.mono (by decide)) (a_cons (d_call c_highest (hr.mono (by decide)) (a_cons (d_make c_Slope (hr.mono (by decide)) (a_cons d_int (a_cons d_int a_nil))) a_nil)) a_nil))) (d_tup a_nil) (nomark _)) (pe_one (d_cmp (op_eqD hr.units) op_eqE (d_propO C.kHeap p_heap_size.1 p_heap_size.2 (hr.mono (by decide)) (d_call c_sky (hr.mono (by decide)) (a_cons (d_call c_lowest (hr.mono (by decide)) (a_cons (d_make c_Slope (hr.mono (by decide)) (a_cons d_int (a_cons d_int a_nil))) a_nil)) a_nil))) d_int (nomark _))))))), ?_⟩
  refine ⟨.ref sc, rfl, sc, ns.map V.int, rfl, .inl hs, 2, _, rfl, 1, _, rfl, _, rfl, ?_⟩
  generalize hN : (if (if ((ns.map V.int).length : Int) < 2 then ((ns.map V.int).length : Int) else 2) > 1 then (if ((ns.map V.int).length : Int) < 2 then ((ns.map V.int).length : Int) else 2) else 1) = N
  have n0 : 0 ≤ N := by
    subst hN
    split <;> omega
  have n2 : N ≤ 2 := by
    subst hN
    split <;> split <;> omega
  refine ⟨by omega, by omega, ?_⟩
  refine for_it walk_range (fun _ σ H => (∃ s1 s2 s3, σ = [some (.ref sc), s1, s2, s3]) ∧ SqL K H sc (ns.map V.int)) ⟨⟨_, _, _, rfl⟩, hs⟩ (fun _ _ _ _ _ => trivial) (fun i x σ H1 H2 hi ⟨⟨s1, s2, s3, e⟩, h1⟩ y => ?_) (fun σ H1 ⟨⟨s1, s2, s3, e⟩, h1⟩ => ?_)
  · obtain ⟨rfl, rfl⟩ := y
    subst e
    refine ⟨.ref sc, rfl, _, rfl, sc, ns, _, rfl, h1, by omega, by omega, fun p a b np => ?_⟩
    refine ⟨p, a, b, 0, rfl, upd_same, fun a' c' x y t hok nt => ?_⟩
    have h2 : SqL K (upd (upd H2 p (.lst [.int a, .int b, .int 0])) p (.lst [.int a', .int b, .int c'])) sc (ns.map V.int) := by
      have e : upd (upd H2 p (.lst [.int a, .int b, .int 0])) p (.lst [.int a', .int b, .int c']) = upd H2 p (.lst [.int a', .int b, .int c']) := by
        funext k
        by_cases hk : k = p
        · subst hk
          rw [upd_same, upd_same]
        · rw [upd_ne hk, upd_ne hk, upd_ne hk]
      rw [e]
      exact sql_new h1 np
    have nt' : (upd (upd H2 p (.lst [.int a, .int b, .int 0])) p (.lst [.int a', .int b, .int c'])) t = none := by
      by_cases hk : t = p
      · subst hk
        rw [upd_same] at nt
        cases nt
      · rw [upd_ne hk] at nt
        rw [upd_ne hk, upd_ne hk]
        exact nt
    have h3 := sql_new (o := .tup [.int x, .int y]) h2 nt'
    refine ⟨t, _, rfl, .inl (.inl upd_same), rfl, _, _, rfl, _, _, rfl, rfl, ?_⟩
    refine (en_none (env := [.unb, .unb, .int x, .int y]) rfl fun i d hi hu => ?_).q (q_law_no c hok) fun F' H' g => iteF ⟨⟨_, _, _, rfl⟩, sql_same h3 g.h⟩
    match i, hi with
    | 0, hi => exact absurd (Option.some.inj hi).symm hu
    | 1, hi => exact absurd (Option.some.inj hi).symm hu
    | 2, hi => exact ⟨x, (Option.some.inj hi).symm, rfl⟩
    | 3, hi => exact ⟨y, (Option.some.inj hi).symm, rfl⟩
    | i + 4, hi => simp at hi
  · subst e
    refine (en_none (env := [.unb, .unb, .unb, .unb]) rfl fun i d hi hu => ?_).d c.tail fun F' H' v g r => ?_
    · match i, hi with
      | 0, hi => exact absurd (Option.some.inj hi).symm hu
      | 1, hi => exact absurd (Option.some.inj hi).symm hu
      | 2, hi => exact absurd (Option.some.inj hi).symm hu
      | 3, hi => exact absurd (Option.some.inj hi).symm hu
      | i + 4, hi => simp at hi
    · rw [rep_bl r]
      exact q H'
end
end
end DK
/-! CK -/
set_option Elab.async false
set_option linter.all false
set_option maxRecDepth 100000
set_option maxHeartbeats 0
namespace DK
open PySem
def isT : Option D → Bool
  | some (.bl b) => b
  | _ => false
theorem isT_ok {x : Option D} (h : isT x = true) : x = some (.bl true) := by
  unfold isT at h
  split at h
  · rw [h]
  · cases h
theorem ck_counts_1_1 : isT (m__law_are_counts_right [.int 1, .int 1]) = true := by decide +kernel
theorem ck_free_1_1 : isT (m__law_are_free_right [.int 1, .int 1]) = true := by decide +kernel
theorem ck_counts_1_2 : isT (m__law_are_counts_right [.int 1, .int 2]) = true := by decide +kernel
theorem ck_free_1_2 : isT (m__law_are_free_right [.int 1, .int 2]) = true := by decide +kernel
theorem ck_counts_1_3 : isT (m__law_are_counts_right [.int 1, .int 3]) = true := by decide +kernel
theorem ck_free_1_3 : isT (m__law_are_free_right [.int 1, .int 3]) = true := by decide +kernel
theorem ck_counts_1_4 : isT (m__law_are_counts_right [.int 1, .int 4]) = true := by decide +kernel
theorem ck_free_1_4 : isT (m__law_are_free_right [.int 1, .int 4]) = true := by decide +kernel
theorem ck_counts_1_5 : isT (m__law_are_counts_right [.int 1, .int 5]) = true := by decide +kernel
theorem ck_free_1_5 : isT (m__law_are_free_right [.int 1, .int 5]) = true := by decide +kernel
theorem ck_counts_1_6 : isT (m__law_are_counts_right [.int 1, .int 6]) = true := by decide +kernel
theorem ck_free_1_6 : isT (m__law_are_free_right [.int 1, .int 6]) = true := by decide +kernel
theorem ck_counts_1_7 : isT (m__law_are_counts_right [.int 1, .int 7]) = true := by decide +kernel
theorem ck_free_1_7 : isT (m__law_are_free_right [.int 1, .int 7]) = true := by decide +kernel
theorem ck_counts_1_8 : isT (m__law_are_counts_right [.int 1, .int 8]) = true := by decide +kernel
theorem ck_free_1_8 : isT (m__law_are_free_right [.int 1, .int 8]) = true := by decide +kernel
theorem ck_counts_1_9 : isT (m__law_are_counts_right [.int 1, .int 9]) = true := by decide +kernel
theorem ck_free_1_9 : isT (m__law_are_free_right [.int 1, .int 9]) = true := by decide +kernel
theorem ck_counts_1_10 : isT (m__law_are_counts_right [.int 1, .int 10]) = true := by decide +kernel
theorem ck_free_1_10 : isT (m__law_are_free_right [.int 1, .int 10]) = true := by decide +kernel
theorem ck_counts_1_11 : isT (m__law_are_counts_right [.int 1, .int 11]) = true := by decide +kernel
theorem ck_free_1_11 : isT (m__law_are_free_right [.int 1, .int 11]) = true := by decide +kernel
theorem ck_counts_2_1 : isT (m__law_are_counts_right [.int 2, .int 1]) = true := by decide +kernel
theorem ck_free_2_1 : isT (m__law_are_free_right [.int 2, .int 1]) = true := by decide +kernel
theorem ck_counts_2_3 : isT (m__law_are_counts_right [.int 2, .int 3]) = true := by decide +kernel
theorem ck_free_2_3 : isT (m__law_are_free_right [.int 2, .int 3]) = true := by decide +kernel
theorem ck_counts_2_5 : isT (m__law_are_counts_right [.int 2, .int 5]) = true := by decide +kernel
theorem ck_free_2_5 : isT (m__law_are_free_right [.int 2, .int 5]) = true := by decide +kernel
theorem ck_counts_2_7 : isT (m__law_are_counts_right [.int 2, .int 7]) = true := by decide +kernel
theorem ck_free_2_7 : isT (m__law_are_free_right [.int 2, .int 7]) = true := by decide +kernel
theorem ck_counts_2_9 : isT (m__law_are_counts_right [.int 2, .int 9]) = true := by decide +kernel
theorem ck_free_2_9 : isT (m__law_are_free_right [.int 2, .int 9]) = true := by decide +kernel
theorem ck_counts_3_1 : isT (m__law_are_counts_right [.int 3, .int 1]) = true := by decide +kernel
theorem ck_free_3_1 : isT (m__law_are_free_right [.int 3, .int 1]) = true := by decide +kernel
theorem ck_counts_3_2 : isT (m__law_are_counts_right [.int 3, .int 2]) = true := by decide +kernel
theorem ck_free_3_2 : isT (m__law_are_free_right [.int 3, .int 2]) = true := by decide +kernel
theorem ck_counts_3_4 : isT (m__law_are_counts_right [.int 3, .int 4]) = true := by decide +kernel
theorem ck_free_3_4 : isT (m__law_are_free_right [.int 3, .int 4]) = true := by decide +kernel
theorem ck_counts_3_5 : isT (m__law_are_counts_right [.int 3, .int 5]) = true := by decide +kernel
theorem ck_free_3_5 : isT (m__law_are_free_right [.int 3, .int 5]) = true := by decide +kernel
theorem ck_counts_3_7 : isT (m__law_are_counts_right [.int 3, .int 7]) = true := by decide +kernel
theorem ck_free_3_7 : isT (m__law_are_free_right [.int 3, .int 7]) = true := by decide +kernel
theorem ck_counts_3_8 : isT (m__law_are_counts_right [.int 3, .int 8]) = true := by decide +kernel
theorem ck_free_3_8 : isT (m__law_are_free_right [.int 3, .int 8]) = true := by decide +kernel
theorem ck_counts_4_1 : isT (m__law_are_counts_right [.int 4, .int 1]) = true := by decide +kernel
theorem ck_free_4_1 : isT (m__law_are_free_right [.int 4, .int 1]) = true := by decide +kernel
theorem ck_counts_4_3 : isT (m__law_are_counts_right [.int 4, .int 3]) = true := by decide +kernel
theorem ck_free_4_3 : isT (m__law_are_free_right [.int 4, .int 3]) = true := by decide +kernel
theorem ck_counts_4_5 : isT (m__law_are_counts_right [.int 4, .int 5]) = true := by decide +kernel
theorem ck_free_4_5 : isT (m__law_are_free_right [.int 4, .int 5]) = true := by decide +kernel
theorem ck_counts_4_7 : isT (m__law_are_counts_right [.int 4, .int 7]) = true := by decide +kernel
theorem ck_free_4_7 : isT (m__law_are_free_right [.int 4, .int 7]) = true := by decide +kernel
theorem ck_counts_5_1 : isT (m__law_are_counts_right [.int 5, .int 1]) = true := by decide +kernel
theorem ck_free_5_1 : isT (m__law_are_free_right [.int 5, .int 1]) = true := by decide +kernel
theorem ck_counts_5_2 : isT (m__law_are_counts_right [.int 5, .int 2]) = true := by decide +kernel
theorem ck_free_5_2 : isT (m__law_are_free_right [.int 5, .int 2]) = true := by decide +kernel
theorem ck_counts_5_3 : isT (m__law_are_counts_right [.int 5, .int 3]) = true := by decide +kernel
theorem ck_free_5_3 : isT (m__law_are_free_right [.int 5, .int 3]) = true := by decide +kernel
theorem ck_counts_5_4 : isT (m__law_are_counts_right [.int 5, .int 4]) = true := by decide +kernel
theorem ck_free_5_4 : isT (m__law_are_free_right [.int 5, .int 4]) = true := by decide +kernel
theorem ck_counts_5_6 : isT (m__law_are_counts_right [.int 5, .int 6]) = true := by decide +kernel
theorem ck_free_5_6 : isT (m__law_are_free_right [.int 5, .int 6]) = true := by decide +kernel
theorem ck_counts_5_7 : isT (m__law_are_counts_right [.int 5, .int 7]) = true := by decide +kernel
theorem ck_free_5_7 : isT (m__law_are_free_right [.int 5, .int 7]) = true := by decide +kernel
theorem ck_counts_6_1 : isT (m__law_are_counts_right [.int 6, .int 1]) = true := by decide +kernel
theorem ck_free_6_1 : isT (m__law_are_free_right [.int 6, .int 1]) = true := by decide +kernel
theorem ck_counts_6_5 : isT (m__law_are_counts_right [.int 6, .int 5]) = true := by decide +kernel
theorem ck_free_6_5 : isT (m__law_are_free_right [.int 6, .int 5]) = true := by decide +kernel
theorem ck_counts_7_1 : isT (m__law_are_counts_right [.int 7, .int 1]) = true := by decide +kernel
theorem ck_free_7_1 : isT (m__law_are_free_right [.int 7, .int 1]) = true := by decide +kernel
theorem ck_counts_7_2 : isT (m__law_are_counts_right [.int 7, .int 2]) = true := by decide +kernel
theorem ck_free_7_2 : isT (m__law_are_free_right [.int 7, .int 2]) = true := by decide +kernel
theorem ck_counts_7_3 : isT (m__law_are_counts_right [.int 7, .int 3]) = true := by decide +kernel
theorem ck_free_7_3 : isT (m__law_are_free_right [.int 7, .int 3]) = true := by decide +kernel
theorem ck_counts_7_4 : isT (m__law_are_counts_right [.int 7, .int 4]) = true := by decide +kernel
theorem ck_free_7_4 : isT (m__law_are_free_right [.int 7, .int 4]) = true := by decide +kernel
theorem ck_counts_7_5 : isT (m__law_are_counts_right [.int 7, .int 5]) = true := by decide +kernel
theorem ck_free_7_5 : isT (m__law_are_free_right [.int 7, .int 5]) = true := by decide +kernel
theorem ck_counts_8_1 : isT (m__law_are_counts_right [.int 8, .int 1]) = true := by decide +kernel
theorem ck_free_8_1 : isT (m__law_are_free_right [.int 8, .int 1]) = true := by decide +kernel
theorem ck_counts_8_3 : isT (m__law_are_counts_right [.int 8, .int 3]) = true := by decide +kernel
theorem ck_free_8_3 : isT (m__law_are_free_right [.int 8, .int 3]) = true := by decide +kernel
theorem ck_counts_9_1 : isT (m__law_are_counts_right [.int 9, .int 1]) = true := by decide +kernel
theorem ck_free_9_1 : isT (m__law_are_free_right [.int 9, .int 1]) = true := by decide +kernel
theorem ck_counts_9_2 : isT (m__law_are_counts_right [.int 9, .int 2]) = true := by decide +kernel
theorem ck_free_9_2 : isT (m__law_are_free_right [.int 9, .int 2]) = true := by decide +kernel
theorem ck_counts_10_1 : isT (m__law_are_counts_right [.int 10, .int 1]) = true := by decide +kernel
theorem ck_free_10_1 : isT (m__law_are_free_right [.int 10, .int 1]) = true := by decide +kernel
theorem ck_counts_11_1 : isT (m__law_are_counts_right [.int 11, .int 1]) = true := by decide +kernel
theorem ck_free_11_1 : isT (m__law_are_free_right [.int 11, .int 1]) = true := by decide +kernel
theorem ck_tail : isT (f_law [.unb, .unb, .unb, .unb]) = true := by decide +kernel
theorem ck_counts (x y : Int) (h : okSl x y) : m__law_are_counts_right [.int x, .int y] = some (.bl true) := by
  obtain ⟨hx, hy, hs, hg⟩ := h
  by_cases e1 : x = 1
  · subst e1
    by_cases f1 : y = 1
    · subst f1
      exact isT_ok ck_counts_1_1
    by_cases f2 : y = 2
    · subst f2
      exact isT_ok ck_counts_1_2
    by_cases f3 : y = 3
    · subst f3
      exact isT_ok ck_counts_1_3
    by_cases f4 : y = 4
    · subst f4
      exact isT_ok ck_counts_1_4
    by_cases f5 : y = 5
    · subst f5
      exact isT_ok ck_counts_1_5
    by_cases f6 : y = 6
    · subst f6
      exact isT_ok ck_counts_1_6
    by_cases f7 : y = 7
    · subst f7
      exact isT_ok ck_counts_1_7
    by_cases f8 : y = 8
    · subst f8
      exact isT_ok ck_counts_1_8
    by_cases f9 : y = 9
    · subst f9
      exact isT_ok ck_counts_1_9
    by_cases f10 : y = 10
    · subst f10
      exact isT_ok ck_counts_1_10
    by_cases f11 : y = 11
    · subst f11
      exact isT_ok ck_counts_1_11
    omega
  by_cases e2 : x = 2
  · subst e2
    by_cases f1 : y = 1
    · subst f1
      exact isT_ok ck_counts_2_1
    by_cases f2 : y = 2
    · subst f2
      exact absurd hg (by decide)
    by_cases f3 : y = 3
    · subst f3
      exact isT_ok ck_counts_2_3
    by_cases f4 : y = 4
    · subst f4
      exact absurd hg (by decide)
    by_cases f5 : y = 5
    · subst f5
      exact isT_ok ck_counts_2_5
    by_cases f6 : y = 6
    · subst f6
      exact absurd hg (by decide)
    by_cases f7 : y = 7
    · subst f7
      exact isT_ok ck_counts_2_7
    by_cases f8 : y = 8
    · subst f8
      exact absurd hg (by decide)
    by_cases f9 : y = 9
    · subst f9
      exact isT_ok ck_counts_2_9
    by_cases f10 : y = 10
    · subst f10
      exact absurd hg (by decide)
    omega
  by_cases e3 : x = 3
  · subst e3
    by_cases f1 : y = 1
    · subst f1
      exact isT_ok ck_counts_3_1
    by_cases f2 : y = 2
    · subst f2
      exact isT_ok ck_counts_3_2
    by_cases f3 : y = 3
    · subst f3
      exact absurd hg (by decide)
    by_cases f4 : y = 4
    · subst f4
      exact isT_ok ck_counts_3_4
    by_cases f5 : y = 5
    · subst f5
      exact isT_ok ck_counts_3_5
    by_cases f6 : y = 6
    · subst f6
      exact absurd hg (by decide)
    by_cases f7 : y = 7
    · subst f7
      exact isT_ok ck_counts_3_7
    by_cases f8 : y = 8
    · subst f8
      exact isT_ok ck_counts_3_8
    by_cases f9 : y = 9
    · subst f9
      exact absurd hg (by decide)
    omega
  by_cases e4 : x = 4
  · subst e4
    by_cases f1 : y = 1
    · subst f1
      exact isT_ok ck_counts_4_1
    by_cases f2 : y = 2
    · subst f2
      exact absurd hg (by decide)
    by_cases f3 : y = 3
    · subst f3
      exact isT_ok ck_counts_4_3
    by_cases f4 : y = 4
    · subst f4
      exact absurd hg (by decide)
    by_cases f5 : y = 5
    · subst f5
      exact isT_ok ck_counts_4_5
    by_cases f6 : y = 6
    · subst f6
      exact absurd hg (by decide)
    by_cases f7 : y = 7
    · subst f7
      exact isT_ok ck_counts_4_7
    by_cases f8 : y = 8
    · subst f8
      exact absurd hg (by decide)
    omega
  by_cases e5 : x = 5
  · subst e5
    by_cases f1 : y = 1
    · subst f1
      exact isT_ok ck_counts_5_1
    by_cases f2 : y = 2
    · subst f2
      exact isT_ok ck_counts_5_2
    by_cases f3 : y = 3
    · subst f3
      exact isT_ok ck_counts_5_3
    by_cases f4 : y = 4
    · subst f4
      exact isT_ok ck_counts_5_4
    by_cases f5 : y = 5
    · subst f5
      exact absurd hg (by decide)
    by_cases f6 : y = 6
    · subst f6
      exact isT_ok ck_counts_5_6
    by_cases f7 : y = 7
    · subst f7
      exact isT_ok ck_counts_5_7
    omega
  by_cases e6 : x = 6
  · subst e6
    by_cases f1 : y = 1
    · subst f1
      exact isT_ok ck_counts_6_1
    by_cases f2 : y = 2
    · subst f2
      exact absurd hg (by decide)
    by_cases f3 : y = 3
    · subst f3
      exact absurd hg (by decide)
    by_cases f4 : y = 4
    · subst f4
      exact absurd hg (by decide)
    by_cases f5 : y = 5
    · subst f5
      exact isT_ok ck_counts_6_5
    by_cases f6 : y = 6
    · subst f6
      exact absurd hg (by decide)
    omega
  by_cases e7 : x = 7
  · subst e7
    by_cases f1 : y = 1
    · subst f1
      exact isT_ok ck_counts_7_1
    by_cases f2 : y = 2
    · subst f2
      exact isT_ok ck_counts_7_2
    by_cases f3 : y = 3
    · subst f3
      exact isT_ok ck_counts_7_3
    by_cases f4 : y = 4
    · subst f4
      exact isT_ok ck_counts_7_4
    by_cases f5 : y = 5
    · subst f5
      exact isT_ok ck_counts_7_5
    omega
  by_cases e8 : x = 8
  · subst e8
    by_cases f1 : y = 1
    · subst f1
      exact isT_ok ck_counts_8_1
    by_cases f2 : y = 2
    · subst f2
      exact absurd hg (by decide)
    by_cases f3 : y = 3
    · subst f3
      exact isT_ok ck_counts_8_3
    by_cases f4 : y = 4
    · subst f4
      exact absurd hg (by decide)
    omega
  by_cases e9 : x = 9
  · subst e9
    by_cases f1 : y = 1
    · subst f1
      exact isT_ok ck_counts_9_1
    by_cases f2 : y = 2
    · subst f2
      exact isT_ok ck_counts_9_2
    by_cases f3 : y = 3
    · subst f3
      exact absurd hg (by decide)
    omega
  by_cases e10 : x = 10
  · subst e10
    by_cases f1 : y = 1
    · subst f1
      exact isT_ok ck_counts_10_1
    by_cases f2 : y = 2
    · subst f2
      exact absurd hg (by decide)
    omega
  by_cases e11 : x = 11
  · subst e11
    by_cases f1 : y = 1
    · subst f1
      exact isT_ok ck_counts_11_1
    omega
  omega
theorem ck_free (x y : Int) (h : okSl x y) : m__law_are_free_right [.int x, .int y] = some (.bl true) := by
  obtain ⟨hx, hy, hs, hg⟩ := h
  by_cases e1 : x = 1
  · subst e1
    by_cases f1 : y = 1
    · subst f1
      exact isT_ok ck_free_1_1
    by_cases f2 : y = 2
    · subst f2
      exact isT_ok ck_free_1_2
    by_cases f3 : y = 3
    · subst f3
      exact isT_ok ck_free_1_3
    by_cases f4 : y = 4
    · subst f4
      exact isT_ok ck_free_1_4
    by_cases f5 : y = 5
    · subst f5
      exact isT_ok ck_free_1_5
    by_cases f6 : y = 6
    · subst f6
      exact isT_ok ck_free_1_6
    by_cases f7 : y = 7
    · subst f7
      exact isT_ok ck_free_1_7
    by_cases f8 : y = 8
    · subst f8
      exact isT_ok ck_free_1_8
    by_cases f9 : y = 9
    · subst f9
      exact isT_ok ck_free_1_9
    by_cases f10 : y = 10
    · subst f10
      exact isT_ok ck_free_1_10
    by_cases f11 : y = 11
    · subst f11
      exact isT_ok ck_free_1_11
    omega
  by_cases e2 : x = 2
  · subst e2
    by_cases f1 : y = 1
    · subst f1
      exact isT_ok ck_free_2_1
    by_cases f2 : y = 2
    · subst f2
      exact absurd hg (by decide)
    by_cases f3 : y = 3
    · subst f3
      exact isT_ok ck_free_2_3
    by_cases f4 : y = 4
    · subst f4
      exact absurd hg (by decide)
    by_cases f5 : y = 5
    · subst f5
      exact isT_ok ck_free_2_5
    by_cases f6 : y = 6
    · subst f6
      exact absurd hg (by decide)
    by_cases f7 : y = 7
    · subst f7
      exact isT_ok ck_free_2_7
    by_cases f8 : y = 8
    · subst f8
      exact absurd hg (by decide)
    by_cases f9 : y = 9
    · subst f9
      exact isT_ok ck_free_2_9
    by_cases f10 : y = 10
    · subst f10
      exact absurd hg (by decide)
    omega
  by_cases e3 : x = 3
  · subst e3
    by_cases f1 : y = 1
    · subst f1
      exact isT_ok ck_free_3_1
    by_cases f2 : y = 2
    · subst f2
      exact isT_ok ck_free_3_2
    by_cases f3 : y = 3
    · subst f3
      exact absurd hg (by decide)
    by_cases f4 : y = 4
    · subst f4
      exact isT_ok ck_free_3_4
    by_cases f5 : y = 5
    · subst f5
      exact isT_ok ck_free_3_5
    by_cases f6 : y = 6
    · subst f6
      exact absurd hg (by decide)
    by_cases f7 : y = 7
    · subst f7
      exact isT_ok ck_free_3_7
    by_cases f8 : y = 8
    · subst f8
      exact isT_ok ck_free_3_8
    by_cases f9 : y = 9
    · subst f9
      exact absurd hg (by decide)
    omega
  by_cases e4 : x = 4
  · subst e4
    by_cases f1 : y = 1
    · subst f1
      exact isT_ok ck_free_4_1
    by_cases f2 : y = 2
    · subst f2
      exact absurd hg (by decide)
    by_cases f3 : y = 3
    · subst f3
      exact isT_ok ck_free_4_3
    by_cases f4 : y = 4
    · subst f4
      exact absurd hg (by decide)
    by_cases f5 : y = 5
    · subst f5
      exact isT_ok ck_free_4_5
    by_cases f6 : y = 6
    · subst f6
      exact absurd hg (by decide)
    by_cases f7 : y = 7
    · subst f7
      exact isT_ok ck_free_4_7
    by_cases f8 : y = 8
    · subst f8
      exact absurd hg (by decide)
    omega
  by_cases e5 : x = 5
  · subst e5
    by_cases f1 : y = 1
    · subst f1
      exact isT_ok ck_free_5_1
    by_cases f2 : y = 2
    · subst f2
      exact isT_ok ck_free_5_2
    by_cases f3 : y = 3
    · subst f3
      exact isT_ok ck_free_5_3
    by_cases f4 : y = 4
    · subst f4
      exact isT_ok ck_free_5_4
    by_cases f5 : y = 5
    · subst f5
      exact absurd hg (by decide)
    by_cases f6 : y = 6
    · subst f6
      exact isT_ok ck_free_5_6
    by_cases f7 : y = 7
    · subst f7
      exact isT_ok ck_free_5_7
    omega
  by_cases e6 : x = 6
  · subst e6
    by_cases f1 : y = 1
    · subst f1
      exact isT_ok ck_free_6_1
    by_cases f2 : y = 2
    · subst f2
      exact absurd hg (by decide)
    by_cases f3 : y = 3
    · subst f3
      exact absurd hg (by decide)
    by_cases f4 : y = 4
    · subst f4
      exact absurd hg (by decide)
    by_cases f5 : y = 5
    · subst f5
      exact isT_ok ck_free_6_5
    by_cases f6 : y = 6
    · subst f6
      exact absurd hg (by decide)
    omega
  by_cases e7 : x = 7
  · subst e7
    by_cases f1 : y = 1
    · subst f1
      exact isT_ok ck_free_7_1
    by_cases f2 : y = 2
    · subst f2
      exact isT_ok ck_free_7_2
    by_cases f3 : y = 3
    · subst f3
      exact isT_ok ck_free_7_3
    by_cases f4 : y = 4
    · subst f4
      exact isT_ok ck_free_7_4
    by_cases f5 : y = 5
    · subst f5
      exact isT_ok ck_free_7_5
    omega
  by_cases e8 : x = 8
  · subst e8
    by_cases f1 : y = 1
    · subst f1
      exact isT_ok ck_free_8_1
    by_cases f2 : y = 2
    · subst f2
      exact absurd hg (by decide)
    by_cases f3 : y = 3
    · subst f3
      exact isT_ok ck_free_8_3
    by_cases f4 : y = 4
    · subst f4
      exact absurd hg (by decide)
    omega
  by_cases e9 : x = 9
  · subst e9
    by_cases f1 : y = 1
    · subst f1
      exact isT_ok ck_free_9_1
    by_cases f2 : y = 2
    · subst f2
      exact isT_ok ck_free_9_2
    by_cases f3 : y = 3
    · subst f3
      exact absurd hg (by decide)
    omega
  by_cases e10 : x = 10
  · subst e10
    by_cases f1 : y = 1
    · subst f1
      exact isT_ok ck_free_10_1
    by_cases f2 : y = 2
    · subst f2
      exact absurd hg (by decide)
    omega
  by_cases e11 : x = 11
  · subst e11
    by_cases f1 : y = 1
    · subst f1
      exact isT_ok ck_free_11_1
    omega
  omega
theorem checked : Checked := ⟨ck_counts, ck_free, isT_ok ck_tail⟩
end DK
/-! HD -/
set_option Elab.async false
set_option linter.all false
set_option maxRecDepth 100000
set_option maxHeartbeats 4000000
namespace DK
open PySem PySem.Spec PyProof.Rows L2
/-! ### what it says -/
structure Hd (K : PySem.W.Frag) (mg : Str → Option Value) (h : Heap) : Prop where
  X : K.In h
  G : h.Ns mainGlobals mg
  c : He5.SaysA faL fnL K
  e : (exL K).all id = true
section
variable {P : Program} {w : World} {K : PySem.W.Frag} {mg : Str → Option Value} {base h : Heap}
theorem Hd.ex (H : Hd K mg h) (i : Nat) {b : Bool} (hb : (exL K)[i]? = some b) : b = true := List.all_eq_true.mp H.e b (List.mem_of_getElem? hb)
theorem Hd.glo (H : Hd K mg h) (j : Nat) {x : Str} (hj : faL[j]? = some (.glo x)) : mg x = some (.ref (He.ga K x)) := He.glo_ok H.X H.G (H.c.fact j hj)
theorem Hd.free (H : Hd K mg h) (j : Nat) {x : Str} (hj : faL[j]? = some (.free x)) : mg x = none := He.free_ok H.X H.G (H.c.fact j hj)
theorem Hd.blt (H : Hd K mg h) (i : Nat) {x : Str} {b : String} (hi : (exL K)[i]? = some (bltB K x b)) : mg x = some (.builtin b) := PySem.W.mg_of H.X H.G (He.eqO_ok (H.ex i hi))
theorem clsB_ok {x : Str} (c : clsB K x = true) (hm : mg x = some (.ref (He.ga K x))) : Kls K mg x (He.ga K x) := by
  obtain ⟨c1, c⟩ := He.ba c
  obtain ⟨c2, c⟩ := He.ba c
  obtain ⟨c3, c⟩ := He.ba c
  obtain ⟨c4, c⟩ := He.ba c
  obtain ⟨c5, c⟩ := He.ba c
  obtain ⟨c6, c⟩ := He.ba c
  obtain ⟨c7, c8⟩ := He.ba c
  refine ⟨⟨c1, c2, c3, He.eqO_ok c4⟩, ⟨He.eqO_ok c5, He.eqO_ok c6, of_decide_eq_true c7, of_decide_eq_true c8⟩, ?_, hm⟩
  unfold PySem.W.kitOne
  rw [if_pos (beq_self_eq_true _)]
theorem slotB_ok {x f : Str} {i : Nat} (c : slotB K x f i = true) : ∃ p, SlX.Slot1 K (He.ga K x) f p i := by
  obtain ⟨c1, c⟩ := He.ba c
  obtain ⟨c2, c⟩ := He.ba c
  obtain ⟨c3, c⟩ := He.ba c
  obtain ⟨c4, c⟩ := He.ba c
  obtain ⟨c5, c6⟩ := He.ba c
  exact ⟨_, He.eqO_ok c1, He.eqO_ok c2, of_decide_eq_true c3, of_decide_eq_true c4, of_decide_eq_true c5, of_decide_eq_true c6⟩
theorem prpB_ok {x f : Str} (c : prpB K x f = true) : Prp K (He.ga K x) f (He5.wf K (He.ga K x) "property" f) := by
  obtain ⟨c1, c⟩ := He.ba c
  obtain ⟨c2, c⟩ := He.ba c
  obtain ⟨c3, c4⟩ := He.ba c
  refine ⟨_, He.eqO_ok c1, He.eqO_ok c2, of_decide_eq_true c3, ?_⟩
  unfold He5.wf
  split at c4
  · rename_i g rest e
    rw [e]
    exact ⟨rest, rfl⟩
  · cases c4
theorem Hd.bt (H : Hd K mg h) : Bt mg := ⟨H.free 0 (by kernel_rfl), H.free 1 (by kernel_rfl), H.free 2 (by kernel_rfl), H.free 3 (by kernel_rfl),
  H.free 4 (by kernel_rfl), H.free 5 (by kernel_rfl), H.free 6 (by kernel_rfl), H.free 7 (by kernel_rfl),
  H.free 8 (by kernel_rfl), H.free 9 (by kernel_rfl), H.free 10 (by kernel_rfl), H.free 11 (by kernel_rfl),
  H.free 12 (by kernel_rfl), H.free 13 (by kernel_rfl), H.free 14 (by kernel_rfl), H.free 15 (by kernel_rfl),
  H.blt 23 (by kernel_rfl), H.blt 24 (by kernel_rfl), He.str_ok H.X H.G (H.c.fact 20 (f := .str "RISE" ⟨[114].toArray⟩) (by kernel_rfl)), He.str_ok H.X H.G (H.c.fact 21 (f := .str "STEP" ⟨[115].toArray⟩) (by kernel_rfl)),
  He.int_ok H.X H.G (H.c.fact 16 (f := .int "GREATEST" (10 ^ 60)) (by kernel_rfl)), He.int_ok H.X H.G (H.c.fact 17 (f := .int "MAX_SIDE" 60) (by kernel_rfl)), He.int_ok H.X H.G (H.c.fact 18 (f := .int "MAX_LISTED" 5000) (by kernel_rfl)), He.int_ok H.X H.G (H.c.fact 19 (f := .int "MAX_ROW" 60) (by kernel_rfl))⟩
theorem Hd.cf (H : Hd K mg h) : Cf K mg (ctK K) := ⟨clsB_ok (H.ex 0 (by kernel_rfl)) (H.glo 69 (by kernel_rfl)), clsB_ok (H.ex 1 (by kernel_rfl)) (H.glo 71 (by kernel_rfl)),
  clsB_ok (H.ex 2 (by kernel_rfl)) (H.glo 73 (by kernel_rfl)), clsB_ok (H.ex 3 (by kernel_rfl)) (H.glo 75 (by kernel_rfl)),
  slotB_ok (H.ex 4 (by kernel_rfl)), slotB_ok (H.ex 5 (by kernel_rfl)),
  slotB_ok (H.ex 6 (by kernel_rfl)), slotB_ok (H.ex 7 (by kernel_rfl)),
  slotB_ok (H.ex 8 (by kernel_rfl)), slotB_ok (H.ex 9 (by kernel_rfl)),
  slotB_ok (H.ex 10 (by kernel_rfl)), slotB_ok (H.ex 11 (by kernel_rfl)),
  slotB_ok (H.ex 12 (by kernel_rfl)), slotB_ok (H.ex 13 (by kernel_rfl)),
  slotB_ok (H.ex 14 (by kernel_rfl))⟩
theorem Hd.fn (H : Hd K mg h) (i j : Nat) {x : Str} {st : Stmt} {ps : List Str} {k : Nat} {sp : Sp} (hi : fnL[i]? = some (dF x st)) (hj : faL[j]? = some (.glo x))
    (hb : ∀ (kV doc pm : Value) (an : Option Addr) (cdv ct : Value) (us : List Value), us.length = ps.length → bindArgs (PySem.W.fnOf x x (defArgs st) (defBody st) (defScope st) .none kV doc pm an cdv ct) ⟨us, []⟩ = pure (ps.zip us))
    (ok : ∀ fd, Fun K x x st (He.ga K x) fd → FnOk P w K mg base CX0 k (He.ga K x) fd ps sp) (k' : Nat) (hk : k ≤ k') :
    ∃ fd, FnOk P w K mg base CX0 k' (He.ga K x) fd ps sp ∧ mg x = some (.ref (He.ga K x)) ∧ PySem.W.keepIn K (.ref (He.ga K x)) = true ∧ Binds K fd ps [] := by
  obtain ⟨fd, F0⟩ := H.c.def_ i hi
  have F : FunD K x x (defArgs st) (defBody st) (defScope st) [] [] (He.ga K x) fd := F0
  exact ⟨fd, (ok fd (He5.fun_of F)).mono hk, H.glo j hj, F.kp, F.bindsN hb⟩
theorem Hd.cal (H : Hd K mg h) (i j : Nat) {x : Str} {st : Stmt} {ps : List Str} {k : Nat} {m : List D → Option D} (hi : fnL[i]? = some (dF x st)) (hj : faL[j]? = some (.glo x))
    (hb : ∀ (kV doc pm : Value) (an : Option Addr) (cdv ct : Value) (us : List Value), us.length = ps.length → bindArgs (PySem.W.fnOf x x (defArgs st) (defBody st) (defScope st) .none kV doc pm an cdv ct) ⟨us, []⟩ = pure (ps.zip us))
    (ok : ∀ fd, Fun K x x st (He.ga K x) fd → FnOk P w K mg base CX0 k (He.ga K x) fd ps (spD K (ctK K) m)) : Cal P w K mg base (ctK K) k x m := by
  obtain ⟨fd, h1, h2, h3, h4⟩ := H.fn i j hi hj hb ok k (Nat.le_refl _)
  exact ⟨_, fd, ps, h1, h2, h3, h4⟩
theorem Hd.calG (H : Hd K mg h) (i j : Nat) {x : Str} {st : Stmt} {ps : List Str} {k : Nat} {m : List D → Option (List D)} (hi : fnL[i]? = some (dF x st)) (hj : faL[j]? = some (.glo x))
    (hb : ∀ (kV doc pm : Value) (an : Option Addr) (cdv ct : Value) (us : List Value), us.length = ps.length → bindArgs (PySem.W.fnOf x x (defArgs st) (defBody st) (defScope st) .none kV doc pm an cdv ct) ⟨us, []⟩ = pure (ps.zip us))
    (ok : ∀ fd, Fun K x x st (He.ga K x) fd → GL.GFnW P w K mg base k (He.ga K x) fd ps (spW K (ctK K) m)) (nl : ∀ ds all, m ds = some all → nls all = true) : CalG P w K mg base (ctK K) k x m := by
  obtain ⟨fd, F0⟩ := H.c.def_ i hi
  have F : FunD K x x (defArgs st) (defBody st) (defScope st) [] [] (He.ga K x) fd := F0
  exact ⟨⟨_, fd, ps, ok fd (He5.fun_of F), H.glo j hj, F.kp, F.bindsN hb⟩, nl⟩
theorem Hd.prp (H : Hd K mg h) (i e : Nat) {C f q : Str} {st : Stmt} {ps : List Str} {k : Nat} {m : List D → Option D} (hi : fnL[i]? = some (dP C f q st)) (he : (exL K)[e]? = some (prpB K C f))
    (hb : ∀ (kV doc pm : Value) (an : Option Addr) (cdv ct : Value) (us : List Value), us.length = ps.length → bindArgs (PySem.W.fnOf f q (defArgs st) (defBody st) (defScope st) .none kV doc pm an cdv ct) ⟨us, []⟩ = pure (ps.zip us))
    (ok : ∀ fd, Fun K f q st (He5.wf K (He.ga K C) "property" f) fd → FnOk P w K mg base CX0 k (He5.wf K (He.ga K C) "property" f) fd ps (spD K (ctK K) m)) :
    Prp K (He.ga K C) f (He5.wf K (He.ga K C) "property" f) ∧ Met P w K mg base (ctK K) k (He5.wf K (He.ga K C) "property" f) m := by
  obtain ⟨fd, F0⟩ := H.c.def_ i hi
  have F : FunD K f q (defArgs st) (defBody st) (defScope st) [] [] (He5.wf K (He.ga K C) "property" f) fd := F0
  exact ⟨prpB_ok (H.ex e he), met_of (ok fd (He5.fun_of F)) (F.bindsN hb)⟩
theorem Hd.met (H : Hd K mg h) (i j : Nat) {C f q : Str} {st : Stmt} {ps : List Str} {k : Nat} {m : List D → Option D} (hi : fnL[i]? = some (dM C f q st)) (hj : faL[j]? = some (.meth C f))
    (hb : ∀ (kV doc pm : Value) (an : Option Addr) (cdv ct : Value) (us : List Value), us.length = ps.length → bindArgs (PySem.W.fnOf f q (defArgs st) (defBody st) (defScope st) .none kV doc pm an cdv ct) ⟨us, []⟩ = pure (ps.zip us))
    (ok : ∀ fd, Fun K f q st (He.ma K (He.ga K C) f) fd → FnOk P w K mg base CX0 k (He.ma K (He.ga K C) f) fd ps (spD K (ctK K) m)) :
    Meth K (He.ga K C) f (He.ma K (He.ga K C) f) ∧ Met P w K mg base (ctK K) k (He.ma K (He.ga K C) f) m := by
  obtain ⟨fd, F0⟩ := H.c.def_ i hi
  have F : FunD K f q (defArgs st) (defBody st) (defScope st) [] [] (He.ma K (He.ga K C) f) fd := F0
  exact ⟨He.meth_ok (H.c.fact j hj), met_of (ok fd (He5.fun_of F)) (F.bindsN hb)⟩
theorem Hd.mak (H : Hd K mg h) (i j j' : Nat) {C q : Str} {st : Stmt} {ps : List Str} {k : Nat} {c : Nat} {m : List D → Option (List D)} (hc : ctK K c = He.ga K C) (hi : fnL[i]? = some (dM C "__init__" q st)) (hj : faL[j]? = some (.mkr C)) (hj' : faL[j']? = some (.glo C))
    (hb : ∀ (kV doc pm : Value) (an : Option Addr) (cdv ct : Value) (us : List Value), us.length = ps.length → bindArgs (PySem.W.fnOf "__init__" q (defArgs st) (defBody st) (defScope st) .none kV doc pm an cdv ct) ⟨us, []⟩ = pure (ps.zip us))
    (ok : ∀ fd, FunI K "__init__" q st (He.ma K (He.ga K C) "__init__") fd → FnOk P w K mg base CX0 k (He.ma K (He.ga K C) "__init__") fd ps (spI K (ctK K) c m)) (k' : Nat) (hk : k ≤ k') : Mak P w K mg base (ctK K) k' C c m := by
  obtain ⟨fd, F0⟩ := H.c.def_ i hi
  have F : FunD K "__init__" q (defArgs st) (defBody st) (defScope st) [] [] (He.ma K (He.ga K C) "__init__") fd := F0
  exact ⟨_, fd, ps, hc ▸ He.mkr_ok (H.c.fact j hj), (ok fd ⟨_, _, F⟩).mono hk, hc ▸ H.glo j' hj', F.bindsN hb⟩
theorem Hd.makD (H : Hd K mg h) (i j j' : Nat) {C q : Str} {st : Stmt} {ps : List Str} {k : Nat} {c : Nat} {m : List D → Option (List D)} (hc : ctK K c = He.ga K C) (hi : fnL[i]? = some (dD C "__init__" q st)) (hj : faL[j]? = some (.mkr C)) (hj' : faL[j']? = some (.glo C))
    (hb : ∀ (T : Addr) (kV doc pm : Value) (an : Option Addr) (cdv ct : Value) (us its : List Value), us.length = ps.length → its.length = 1 → ∃ k, bindArgs (PySem.W.fnOf "__init__" q (defArgs st) (defBody st) (defScope st) (.ref T) kV doc pm an cdv ct) ⟨us, []⟩ = seqItems? (.ref T) >>= k ∧ k (some its.toArray) = pure (ps.zip (us ++ its.drop 1)))
    (ok : ∀ fd, FunI K "__init__" q st (He.ma K (He.ga K C) "__init__") fd → FnOk P w K mg base CX0 k (He.ma K (He.ga K C) "__init__") fd ps (spI K (ctK K) c m)) : Mak P w K mg base (ctK K) k C c m := by
  obtain ⟨fd, F0⟩ := H.c.def_ i hi
  have F : FunD K "__init__" q (defArgs st) (defBody st) (defScope st) [.ref (He.dflAt (C, some "__init__") 0 K)] [] (He.ma K (He.ga K C) "__init__") fd := F0
  obtain ⟨ds, r, b⟩ := F.binds1 ps.length 1 (List.cons_ne_nil _ _) (Nat.add_zero _) hb
  have e : ds = [] := by
    cases r
    rfl
  subst e
  exact ⟨_, fd, ps, hc ▸ He.mkr_ok (H.c.fact j hj), ok fd ⟨_, _, F⟩, hc ▸ H.glo j' hj', b⟩
theorem c_is_integer (H : Hd K mg h) : Cal P w K mg base (ctK K) 1 "is_integer" m_is_integer := H.cal 0 22 (st := topS 13) (by kernel_rfl) (by kernel_rfl) (fun _ _ _ _ _ _ us hl => match us, hl with | [_], _ => by kernel_rfl) (fun fd F => ok_is_integer F H.bt H.cf)
theorem c_is_from (H : Hd K mg h) : Cal P w K mg base (ctK K) 2 "is_from" m_is_from := H.cal 1 23 (st := topS 14) (by kernel_rfl) (by kernel_rfl) (fun _ _ _ _ _ _ us hl => match us, hl with | [_, _, _], _ => by kernel_rfl) (fun fd F => ok_is_from F H.bt H.cf (c_is_integer H))
theorem c_require_from (H : Hd K mg h) : Cal P w K mg base (ctK K) 3 "require_from" m_require_from := H.cal 2 24 (st := topS 15) (by kernel_rfl) (by kernel_rfl) (fun _ _ _ _ _ _ us hl => match us, hl with | [_, _, _], _ => by kernel_rfl) (fun fd F => ok_require_from F H.bt H.cf (c_is_from H))
theorem c_are_integers (H : Hd K mg h) : Cal P w K mg base (ctK K) 2 "are_integers" m_are_integers := H.cal 3 25 (st := topS 16) (by kernel_rfl) (by kernel_rfl) (fun _ _ _ _ _ _ us hl => match us, hl with | [_], _ => by kernel_rfl) (fun fd F => ok_are_integers F H.bt H.cf (c_is_integer H))
theorem c_are_ascending (H : Hd K mg h) : Cal P w K mg base (ctK K) 1 "are_ascending" m_are_ascending := H.cal 4 26 (st := topS 17) (by kernel_rfl) (by kernel_rfl) (fun _ _ _ _ _ _ us hl => match us, hl with | [_], _ => by kernel_rfl) (fun fd F => ok_are_ascending F H.bt H.cf)
theorem c_init_Slope (H : Hd K mg h) {k : Nat} (hk : 4 ≤ k := by decide) : Mak P w K mg base (ctK K) k "Slope" 0 m_init_Slope := H.mak 5 70 69 rfl (st := (inClass (topS 22) 1)) (by kernel_rfl) (by kernel_rfl) (by kernel_rfl) (fun _ _ _ _ _ _ us hl => match us, hl with | [_, _, _], _ => by kernel_rfl) (fun fd F => ok_init_Slope F H.bt H.cf (c_require_from H)) k hk
theorem c_levels_of (H : Hd K mg h) : Cal P w K mg base (ctK K) 1 "levels_of" m_levels_of := H.cal 6 27 (st := topS 23) (by kernel_rfl) (by kernel_rfl) (fun _ _ _ _ _ _ us hl => match us, hl with | [_, _], _ => by kernel_rfl) (fun fd F => ok_levels_of F H.bt H.cf)
theorem c_is_text_of (H : Hd K mg h) : Cal P w K mg base (ctK K) 1 "is_text_of" m_is_text_of := H.cal 7 28 (st := topS 24) (by kernel_rfl) (by kernel_rfl) (fun _ _ _ _ _ _ us hl => match us, hl with | [_, _], _ => by kernel_rfl) (fun fd F => ok_is_text_of F H.bt H.cf)
theorem c_is_way_text (H : Hd K mg h) : Cal P w K mg base (ctK K) 2 "is_way_text" m_is_way_text := H.cal 8 29 (st := topS 25) (by kernel_rfl) (by kernel_rfl) (fun _ _ _ _ _ _ us hl => match us, hl with | [_, _], _ => by kernel_rfl) (fun fd F => ok_is_way_text F H.bt H.cf (c_levels_of H) (c_is_text_of H))
theorem c_require_slope (H : Hd K mg h) : Cal P w K mg base (ctK K) 1 "require_slope" m_require_slope := H.cal 9 30 (st := topS 27) (by kernel_rfl) (by kernel_rfl) (fun _ _ _ _ _ _ us hl => match us, hl with | [_], _ => by kernel_rfl) (fun fd F => ok_require_slope F H.bt H.cf)
theorem c_require_coprime (H : Hd K mg h) : Cal P w K mg base (ctK K) 1 "require_coprime" m_require_coprime := H.cal 10 31 (st := topS 28) (by kernel_rfl) (by kernel_rfl) (fun _ _ _ _ _ _ us hl => match us, hl with | [_], _ => by kernel_rfl) (fun fd F => ok_require_coprime F H.bt H.cf)
theorem c_require_way (H : Hd K mg h) : Cal P w K mg base (ctK K) 1 "require_way" m_require_way := H.cal 11 32 (st := topS 29) (by kernel_rfl) (by kernel_rfl) (fun _ _ _ _ _ _ us hl => match us, hl with | [_], _ => by kernel_rfl) (fun fd F => ok_require_way F H.bt H.cf)
theorem c_slope_half (H : Hd K mg h) : Prp K (ctK K 0) "half" (He5.wf K (He.ga K "Slope") "property" "half") ∧ Met P w K mg base (ctK K) 2 (He5.wf K (He.ga K "Slope") "property" "half") m_slope_half := H.prp 12 22 (st := (inClass (topS 22) 7)) (by kernel_rfl) (by kernel_rfl) (fun _ _ _ _ _ _ us hl => match us, hl with | [_], _ => by kernel_rfl) (fun fd F => ok_slope_half F H.bt H.cf (c_require_coprime H))
theorem c_init_Way (H : Hd K mg h) {k : Nat} (hk : 3 ≤ k := by decide) : Mak P w K mg base (ctK K) k "Way" 1 m_init_Way := H.mak 13 72 71 rfl (st := (inClass (topS 26) 1)) (by kernel_rfl) (by kernel_rfl) (by kernel_rfl) (fun _ _ _ _ _ _ us hl => match us, hl with | [_, _, _], _ => by kernel_rfl) (fun fd F => ok_init_Way F H.bt H.cf (c_require_slope H) (c_is_way_text H)) k hk
theorem c_way_text (H : Hd K mg h) : Prp K (ctK K 1) "text" (He5.wf K (He.ga K "Way") "property" "text") ∧ Met P w K mg base (ctK K) 1 (He5.wf K (He.ga K "Way") "property" "text") m_way_text := H.prp 14 19 (st := (inClass (topS 26) 3)) (by kernel_rfl) (by kernel_rfl) (fun _ _ _ _ _ _ us hl => match us, hl with | [_], _ => by kernel_rfl) (fun fd F => ok_way_text F H.bt H.cf)
theorem c_way_eq (H : Hd K mg h) : Meth K (ctK K 1) "__eq__" (He.ma K (He.ga K "Way") "__eq__") ∧ Met P w K mg base (ctK K) 1 (He.ma K (He.ga K "Way") "__eq__") m_way_eq := H.met 15 77 (st := (inClass (topS 26) 10)) (by kernel_rfl) (by kernel_rfl) (fun _ _ _ _ _ _ us hl => match us, hl with | [_, _], _ => by kernel_rfl) (fun fd F => ok_way_eq F H.bt H.cf)
theorem c_count_of_ways (H : Hd K mg h) : Cal P w K mg base (ctK K) 1 "count_of_ways" m_count_of_ways := H.cal 16 33 (st := topS 30) (by kernel_rfl) (by kernel_rfl) (fun _ _ _ _ _ _ us hl => match us, hl with | [_], _ => by kernel_rfl) (fun fd F => ok_count_of_ways F H.bt H.cf)
theorem c_can_step (H : Hd K mg h) : Cal P w K mg base (ctK K) 1 "can_step" m_can_step := H.cal 17 34 (st := topS 31) (by kernel_rfl) (by kernel_rfl) (fun _ _ _ _ _ _ us hl => match us, hl with | [_, _, _], _ => by kernel_rfl) (fun fd F => ok_can_step F H.bt H.cf)
theorem c_highest (H : Hd K mg h) : Cal P w K mg base (ctK K) 5 "highest" m_highest := H.cal 18 35 (st := topS 33) (by kernel_rfl) (by kernel_rfl) (fun _ _ _ _ _ _ us hl => match us, hl with | [_], _ => by kernel_rfl) (fun fd F => ok_highest F H.bt H.cf (c_require_slope H) (c_init_Way H))
theorem c_lowest (H : Hd K mg h) : Cal P w K mg base (ctK K) 5 "lowest" m_lowest := H.cal 19 36 (st := topS 34) (by kernel_rfl) (by kernel_rfl) (fun _ _ _ _ _ _ us hl => match us, hl with | [_], _ => by kernel_rfl) (fun fd F => ok_lowest F H.bt H.cf (c_require_slope H) (c_can_step H) (c_init_Way H))
theorem c_are_gaps (H : Hd K mg h) : Cal P w K mg base (ctK K) 3 "are_gaps" m_are_gaps := H.cal 20 37 (st := topS 37) (by kernel_rfl) (by kernel_rfl) (fun _ _ _ _ _ _ us hl => match us, hl with | [_, _], _ => by kernel_rfl) (fun fd F => ok_are_gaps F H.bt H.cf (c_are_ascending H) (c_are_integers H))
theorem c_least_by (H : Hd K mg h) : Cal P w K mg base (ctK K) 1 "least_by" m_least_by := H.cal 21 38 (st := topS 38) (by kernel_rfl) (by kernel_rfl) (fun _ _ _ _ _ _ us hl => match us, hl with | [_, _], _ => by kernel_rfl) (fun fd F => ok_least_by F H.bt H.cf)
theorem c_init_Shelf (H : Hd K mg h) : Mak P w K mg base (ctK K) 4 "Shelf" 2 m_init_Shelf := H.makD 22 74 73 rfl (st := (inClass (topS 40) 1)) (by kernel_rfl) (by kernel_rfl) (by kernel_rfl) (fun _ _ _ _ _ _ _ us its hl hi => match us, its, hl, hi with | [_, _, _], [_], _, _ => ⟨_, rfl, by kernel_rfl⟩) (fun fd F => ok_init_Shelf F H.bt H.cf (c_require_slope H) (c_require_coprime H) (c_are_gaps H) (c_least_by H))
theorem c_shelf_slope (H : Hd K mg h) : Prp K (ctK K 2) "slope" (He5.wf K (He.ga K "Shelf") "property" "slope") ∧ Met P w K mg base (ctK K) 1 (He5.wf K (He.ga K "Shelf") "property" "slope") m_shelf_slope := H.prp 23 15 (st := (inClass (topS 40) 4)) (by kernel_rfl) (by kernel_rfl) (fun _ _ _ _ _ _ us hl => match us, hl with | [_], _ => by kernel_rfl) (fun fd F => ok_shelf_slope F H.bt H.cf)
theorem c_shelf_gaps (H : Hd K mg h) : Prp K (ctK K 2) "gaps" (He5.wf K (He.ga K "Shelf") "property" "gaps") ∧ Met P w K mg base (ctK K) 1 (He5.wf K (He.ga K "Shelf") "property" "gaps") m_shelf_gaps := H.prp 24 16 (st := (inClass (topS 40) 5)) (by kernel_rfl) (by kernel_rfl) (fun _ _ _ _ _ _ us hl => match us, hl with | [_], _ => by kernel_rfl) (fun fd F => ok_shelf_gaps F H.bt H.cf)
theorem c_shelf_rise_makers (H : Hd K mg h) : Prp K (ctK K 2) "rise_makers" (He5.wf K (He.ga K "Shelf") "property" "rise_makers") ∧ Met P w K mg base (ctK K) 1 (He5.wf K (He.ga K "Shelf") "property" "rise_makers") m_shelf_rise_makers := H.prp 25 17 (st := (inClass (topS 40) 6)) (by kernel_rfl) (by kernel_rfl) (fun _ _ _ _ _ _ us hl => match us, hl with | [_], _ => by kernel_rfl) (fun fd F => ok_shelf_rise_makers F H.bt H.cf)
theorem c_is_member (H : Hd K mg h) : Cal P w K mg base (ctK K) 1 "is_member" m_is_member := H.cal 26 39 (st := topS 41) (by kernel_rfl) (by kernel_rfl) (fun _ _ _ _ _ _ us hl => match us, hl with | [_, _], _ => by kernel_rfl) (fun fd F => ok_is_member F H.bt H.cf)
theorem c_shelf_makers (H : Hd K mg h) : Prp K (ctK K 2) "makers" (He5.wf K (He.ga K "Shelf") "property" "makers") ∧ Met P w K mg base (ctK K) 2 (He5.wf K (He.ga K "Shelf") "property" "makers") m_shelf_makers := H.prp 27 18 (st := (inClass (topS 40) 8)) (by kernel_rfl) (by kernel_rfl) (fun _ _ _ _ _ _ us hl => match us, hl with | [_], _ => by kernel_rfl) (fun fd F => ok_shelf_makers F H.bt H.cf (c_is_member H))
theorem c_shelf_removable (H : Hd K mg h) : Meth K (ctK K 2) "removable" (He.ma K (He.ga K "Shelf") "removable") ∧ Met P w K mg base (ctK K) 4 (He.ma K (He.ga K "Shelf") "removable") m_shelf_removable := H.met 28 78 (st := (inClass (topS 40) 13)) (by kernel_rfl) (by kernel_rfl) (fun _ _ _ _ _ _ us hl => match us, hl with | [_], _ => by kernel_rfl) (fun fd F => ok_shelf_removable F H.bt H.cf (c_shelf_makers H))
theorem c_with_gap (H : Hd K mg h) : Cal P w K mg base (ctK K) 1 "with_gap" m_with_gap := H.cal 29 40 (st := topS 42) (by kernel_rfl) (by kernel_rfl) (fun _ _ _ _ _ _ us hl => match us, hl with | [_, _], _ => by kernel_rfl) (fun fd F => ok_with_gap F H.bt H.cf)
theorem c_require_listed (H : Hd K mg h) : Cal P w K mg base (ctK K) 2 "require_listed" m_require_listed := H.cal 30 41 (st := topS 44) (by kernel_rfl) (by kernel_rfl) (fun _ _ _ _ _ _ us hl => match us, hl with | [_], _ => by kernel_rfl) (fun fd F => ok_require_listed F H.bt H.cf (c_count_of_ways H))
theorem c_grown_from (H : Hd K mg h) : Cal P w K mg base (ctK K) 6 "grown_from" m_grown_from := H.cal 31 42 (st := topS 45) (by kernel_rfl) (by kernel_rfl) (fun _ _ _ _ _ _ us hl => match us, hl with | [_, _], _ => by kernel_rfl) (fun fd F => ok_grown_from F H.bt H.cf (c_init_Shelf H) (c_shelf_removable H) (c_with_gap H))
theorem c_ways (H : Hd K mg h) : CalG P w K mg base (ctK K) 7 "ways" m_ways := H.calG 55 63 (st := topS 32) (by kernel_rfl) (by kernel_rfl) (fun _ _ _ _ _ _ us hl => match us, hl with | [_], _ => by kernel_rfl) (fun fd F => ok_ways F H.bt H.cf (c_require_slope H) (c_can_step H) (c_init_Way H)) nl_ways
theorem c_shelves (H : Hd K mg h) : CalG P w K mg base (ctK K) 7 "shelves" m_shelves := H.calG 56 64 (st := topS 46) (by kernel_rfl) (by kernel_rfl) (fun _ _ _ _ _ _ us hl => match us, hl with | [_], _ => by kernel_rfl) (fun fd F => ok_shelves F H.bt H.cf (c_require_slope H) (c_require_coprime H) (c_require_listed H) (c_init_Shelf H) (c_grown_from H)) nl_shelves
theorem c_are_rows (H : Hd K mg h) : Cal P w K mg base (ctK K) 3 "are_rows" m_are_rows := H.cal 32 43 (st := topS 49) (by kernel_rfl) (by kernel_rfl) (fun _ _ _ _ _ _ us hl => match us, hl with | [_], _ => by kernel_rfl) (fun fd F => ok_are_rows F H.bt H.cf (c_is_from H))
theorem c_init_Heap (H : Hd K mg h) : Mak P w K mg base (ctK K) 4 "Heap" 3 m_init_Heap := H.makD 33 76 75 rfl (st := (inClass (topS 50) 1)) (by kernel_rfl) (by kernel_rfl) (by kernel_rfl) (fun _ _ _ _ _ _ _ us its hl hi => match us, its, hl, hi with | [_, _], [_], _, _ => ⟨_, rfl, by kernel_rfl⟩) (fun fd F => ok_init_Heap F H.bt H.cf (c_are_rows H))
theorem c_heap_rows (H : Hd K mg h) : Prp K (ctK K 3) "rows" (He5.wf K (He.ga K "Heap") "property" "rows") ∧ Met P w K mg base (ctK K) 1 (He5.wf K (He.ga K "Heap") "property" "rows") m_heap_rows := H.prp 34 20 (st := (inClass (topS 50) 3)) (by kernel_rfl) (by kernel_rfl) (fun _ _ _ _ _ _ us hl => match us, hl with | [_], _ => by kernel_rfl) (fun fd F => ok_heap_rows F H.bt H.cf)
theorem c_heap_size (H : Hd K mg h) : Prp K (ctK K 3) "size" (He5.wf K (He.ga K "Heap") "property" "size") ∧ Met P w K mg base (ctK K) 1 (He5.wf K (He.ga K "Heap") "property" "size") m_heap_size := H.prp 35 21 (st := (inClass (topS 50) 4)) (by kernel_rfl) (by kernel_rfl) (fun _ _ _ _ _ _ us hl => match us, hl with | [_], _ => by kernel_rfl) (fun fd F => ok_heap_size F H.bt H.cf)
theorem c_require_coprime_way (H : Hd K mg h) : Cal P w K mg base (ctK K) 2 "require_coprime_way" m_require_coprime_way := H.cal 36 44 (st := topS 52) (by kernel_rfl) (by kernel_rfl) (fun _ _ _ _ _ _ us hl => match us, hl with | [_], _ => by kernel_rfl) (fun fd F => ok_require_coprime_way F H.bt H.cf (c_require_way H) (c_require_coprime H))
theorem c_room_rows (H : Hd K mg h) : Cal P w K mg base (ctK K) 3 "room_rows" m_room_rows := H.cal 37 45 (st := topS 53) (by kernel_rfl) (by kernel_rfl) (fun _ _ _ _ _ _ us hl => match us, hl with | [_], _ => by kernel_rfl) (fun fd F => ok_room_rows F H.bt H.cf (c_require_coprime_way H) (c_levels_of H))
theorem c_room (H : Hd K mg h) : Cal P w K mg base (ctK K) 4 "room" m_room := H.cal 38 46 (st := topS 54) (by kernel_rfl) (by kernel_rfl) (fun _ _ _ _ _ _ us hl => match us, hl with | [_], _ => by kernel_rfl) (fun fd F => ok_room F H.bt H.cf (c_room_rows H))
theorem c_sky_rows (H : Hd K mg h) : Cal P w K mg base (ctK K) 1 "sky_rows" m_sky_rows := H.cal 39 47 (st := topS 55) (by kernel_rfl) (by kernel_rfl) (fun _ _ _ _ _ _ us hl => match us, hl with | [_], _ => by kernel_rfl) (fun fd F => ok_sky_rows F H.bt H.cf)
theorem c_sky (H : Hd K mg h) : Cal P w K mg base (ctK K) 6 "sky" m_sky := H.cal 40 48 (st := topS 56) (by kernel_rfl) (by kernel_rfl) (fun _ _ _ _ _ _ us hl => match us, hl with | [_], _ => by kernel_rfl) (fun fd F => ok_sky F H.bt H.cf (c_require_coprime_way H) (c_sky_rows H) (c_init_Heap H))
theorem c_is_paired (H : Hd K mg h) : Cal P w K mg base (ctK K) 1 "is_paired" m_is_paired := H.cal 41 49 (st := topS 57) (by kernel_rfl) (by kernel_rfl) (fun _ _ _ _ _ _ us hl => match us, hl with | [_, _, _], _ => by kernel_rfl) (fun fd F => ok_is_paired F H.bt H.cf)
theorem c_paired_squares (H : Hd K mg h) : Cal P w K mg base (ctK K) 3 "paired_squares" m_paired_squares := H.cal 42 50 (st := topS 58) (by kernel_rfl) (by kernel_rfl) (fun _ _ _ _ _ _ us hl => match us, hl with | [_], _ => by kernel_rfl) (fun fd F => ok_paired_squares F H.bt H.cf (c_require_coprime_way H) (c_sky_rows H) (c_is_paired H))
theorem c_pairs (H : Hd K mg h) : Cal P w K mg base (ctK K) 4 "pairs" m_pairs := H.cal 43 51 (st := topS 59) (by kernel_rfl) (by kernel_rfl) (fun _ _ _ _ _ _ us hl => match us, hl with | [_], _ => by kernel_rfl) (fun fd F => ok_pairs F H.bt H.cf (c_paired_squares H))
theorem c_free_numbers (H : Hd K mg h) : Cal P w K mg base (ctK K) 3 "free_numbers" m_free_numbers := H.cal 44 52 (st := topS 60) (by kernel_rfl) (by kernel_rfl) (fun _ _ _ _ _ _ us hl => match us, hl with | [_], _ => by kernel_rfl) (fun fd F => ok_free_numbers F H.bt H.cf (c_shelf_gaps H) (c_shelf_slope H) (c_shelf_rise_makers H))
theorem c_counts_of (H : Hd K mg h) : Cal P w K mg base (ctK K) 5 "counts_of" m_counts_of := H.cal 45 53 (st := topS 61) (by kernel_rfl) (by kernel_rfl) (fun _ _ _ _ _ _ us hl => match us, hl with | [_], _ => by kernel_rfl) (fun fd F => ok_counts_of F H.bt H.cf (c_pairs H) (c_room H))
theorem c__law_ways_listed (H : Hd K mg h) : Cal P w K mg base (ctK K) 1 "_law_ways_listed" m__law_ways_listed := H.cal 46 54 (st := topS 66) (by kernel_rfl) (by kernel_rfl) (fun _ _ _ _ _ _ us hl => match us, hl with | [_, _], _ => by kernel_rfl) (fun fd F => ok__law_ways_listed F H.bt H.cf)
theorem c__law_squares_between (H : Hd K mg h) : Cal P w K mg base (ctK K) 1 "_law_squares_between" m__law_squares_between := H.cal 47 55 (st := topS 67) (by kernel_rfl) (by kernel_rfl) (fun _ _ _ _ _ _ us hl => match us, hl with | [_, _, _], _ => by kernel_rfl) (fun fd F => ok__law_squares_between F H.bt H.cf)
theorem c__law_sky_rows (H : Hd K mg h) : Cal P w K mg base (ctK K) 1 "_law_sky_rows" m__law_sky_rows := H.cal 48 56 (st := topS 68) (by kernel_rfl) (by kernel_rfl) (fun _ _ _ _ _ _ us hl => match us, hl with | [_], _ => by kernel_rfl) (fun fd F => ok__law_sky_rows F H.bt H.cf)
theorem c__law_column_lengths (H : Hd K mg h) : Cal P w K mg base (ctK K) 1 "_law_column_lengths" m__law_column_lengths := H.cal 49 57 (st := topS 69) (by kernel_rfl) (by kernel_rfl) (fun _ _ _ _ _ _ us hl => match us, hl with | [_], _ => by kernel_rfl) (fun fd F => ok__law_column_lengths F H.bt H.cf)
theorem c__law_arm_and_leg (H : Hd K mg h) : Cal P w K mg base (ctK K) 2 "_law_arm_and_leg" m__law_arm_and_leg := H.cal 50 58 (st := topS 70) (by kernel_rfl) (by kernel_rfl) (fun _ _ _ _ _ _ us hl => match us, hl with | [_, _, _], _ => by kernel_rfl) (fun fd F => ok__law_arm_and_leg F H.bt H.cf (c__law_column_lengths H))
theorem c__law_gaps_near (H : Hd K mg h) : Cal P w K mg base (ctK K) 1 "_law_gaps_near" m__law_gaps_near := H.cal 51 59 (st := topS 71) (by kernel_rfl) (by kernel_rfl) (fun _ _ _ _ _ _ us hl => match us, hl with | [_, _, _], _ => by kernel_rfl) (fun fd F => ok__law_gaps_near F H.bt H.cf)
theorem c__law_rest_makers (H : Hd K mg h) : Cal P w K mg base (ctK K) 1 "_law_rest_makers" m__law_rest_makers := H.cal 52 60 (st := topS 72) (by kernel_rfl) (by kernel_rfl) (fun _ _ _ _ _ _ us hl => match us, hl with | [_, _], _ => by kernel_rfl) (fun fd F => ok__law_rest_makers F H.bt H.cf)
theorem c__law_are_counts_right (H : Hd K mg h) : Cal P w K mg base (ctK K) 11 "_law_are_counts_right" m__law_are_counts_right := H.cal 53 61 (st := topS 73) (by kernel_rfl) (by kernel_rfl) (fun _ _ _ _ _ _ us hl => match us, hl with | [_, _], _ => by kernel_rfl) (fun fd F => ok__law_are_counts_right F H.bt H.cf (c_init_Slope H) (c_ways H) (c_way_text H) (c__law_ways_listed H) (c_counts_of H) (c__law_squares_between H) (c__law_sky_rows H) (c__law_arm_and_leg H) (c_highest H) (c_way_eq H) (c_lowest H))
theorem c__law_are_free_right (H : Hd K mg h) : Cal P w K mg base (ctK K) 11 "_law_are_free_right" m__law_are_free_right := H.cal 54 62 (st := topS 74) (by kernel_rfl) (by kernel_rfl) (fun _ _ _ _ _ _ us hl => match us, hl with | [_, _], _ => by kernel_rfl) (fun fd F => ok__law_are_free_right F H.bt H.cf (c_init_Slope H) (c_shelves H) (c_free_numbers H) (c_shelf_gaps H) (c__law_rest_makers H) (c__law_gaps_near H) (c_slope_half H) (c_ways H) (c_counts_of H))
theorem law_facts (H : Hd K mg h) (c : Checked) {f : Addr} (hf : mg ("law" : Str) = some (.ref f)) : ∃ fd : FuncData, (∀ (s : Shared) (v : Value), BindsTo s fd ⟨[v], []⟩ [("_law_script", v)]) ∧ ∀ base : Heap, FnOk P w K mg base CX0 12 f fd ["_law_script"] (spLaw K) := by
  have e := hf.symm.trans (H.glo 68 (x := "law") (by kernel_rfl))
  cases e
  obtain ⟨fd, F0⟩ := H.c.def_ 60 (d := dF "law" (topS 75)) (by kernel_rfl)
  have F : FunD K "law" "law" (defArgs (topS 75)) (defBody (topS 75)) (defScope (topS 75)) [] [] (He.ga K "law") fd := F0
  have b := FunD.bindsA (ps := ["_law_script"]) F fun _ _ _ _ _ _ us hl => match us, hl with | [_], _ => rfl
  refine ⟨fd, fun s v => b s [v] rfl, fun base => ?_⟩
  obtain ⟨fr, r1, r2, r3, r4⟩ := H.fn (P := P) (w := w) (base := base) 58 66 (x := "_law_roll") (st := topS 64) (by kernel_rfl) (by kernel_rfl) (fun _ _ _ _ _ _ us hl => match us, hl with | [_, _], _ => by kernel_rfl) (fun fd F => ok_roll F H.bt) 1 (Nat.le_refl _)
  obtain ⟨fs, s1, s2, s3, s4⟩ := H.fn (P := P) (w := w) (base := base) 59 67 (x := "_law_slope") (st := topS 65) (by kernel_rfl) (by kernel_rfl) (fun _ _ _ _ _ _ us hl => match us, hl with | [_, _], _ => by kernel_rfl) (fun fd F => ok_slope F H.bt r1 r2 r3 r4) 2 (Nat.le_refl _)
  obtain ⟨fc, d1, d2, d3, d4⟩ := H.fn (P := P) (w := w) (base := base) 57 65 (x := "_law_dice") (st := topS 63) (by kernel_rfl) (by kernel_rfl) (fun _ _ _ _ _ _ us hl => match us, hl with | [_, _], _ => by kernel_rfl) (fun fd F => ok_dice F H.bt) 1 (Nat.le_refl _)
  exact ok_law (ct := ctK K) (He5.fun_of F) H.bt H.cf c d1 d2 d3 d4 s1 s2 s3 s4 (c__law_are_counts_right H) (c__law_are_free_right H) (c_heap_rows H) (c_heap_size H) (c_sky H) (c_highest H) (c_lowest H) (c_init_Slope H)
end
end DK
/-! FN -/
set_option Elab.async false
set_option linter.all false
set_option maxRecDepth 100000
set_option maxHeartbeats 0
open PySem PySem.W PySem.Calls PyProof.Rows
theorem DK.law_holds (ck : DK.Checked) : PySem.Challenge.rw_slantways_k31_whole_counts_of_all_ways.Holds := by
  w_on; o_law
  refine HandSHeadRun.head_imp (r := OpenLaw.row PySem.Challenge.rw_slantways_k31_whole_counts_of_all_ways) (q := view (OpenLaw.row PySem.Challenge.rw_slantways_k31_whole_counts_of_all_ways).prog [0, 75]) (H := DK.hookL) (ob := DK.obL) (M := 10000) (loose := DK.names)
    (d := HandSHeadRun.topDef (OpenLaw.row PySem.Challenge.rw_slantways_k31_whole_counts_of_all_ways).prog 75) (kwd := []) DK.obL_eq DK.top_run (by kernel_rfl) (by kernel_rfl) (by kernel_rfl) (by rfl) (by first | assumption | decide +kernel) (by decide +kernel) ⟨rfl, rfl, rfl, rfl, rfl, by decide +kernel⟩ ?hw ?hc
  case hw => w_witness2
  case hc =>
    refine L2.walk_ofE (l := PySem.Challenge.rw_slantways_k31_whole_counts_of_all_ways) (n := 63) (k := 12) (x := "_law_script") (CX := L2.CX0) rfl (by decide) (by kernel_rfl) ⟨rfl, by decide, by decide⟩ ?F (fun _ _ _ _ z => z)
    intro w mg fa h Y G hmg0
    obtain ⟨K, KX, c, e⟩ := Y
    have hmg : mg ("law" : PySem.Str) = some (.ref fa) := by
      have e : (HandSHeadRun.topDef (OpenLaw.row PySem.Challenge.rw_slantways_k31_whole_counts_of_all_ways).prog 75).name = ("law" : PySem.Str) := by kernel_rfl
      rw [← e]
      exact hmg0
    obtain ⟨fd, hb, hF⟩ := DK.law_facts (P := (PySem.Challenge.rw_slantways_k31_whole_counts_of_all_ways).prog) (w := w) ⟨KX, G, c, e⟩ ck hmg
    exact ⟨K, fd, DK.spLaw K, KX, hb, fun H a ns hl _ hS => ⟨a, ns, rfl, hS, fun _ => rfl⟩, fun base _ _ => hF base⟩
set_option maxRecDepth 100000 in
set_option maxHeartbeats 0 in
theorem PySem.Challenge.cw_slantways_k31_whole_counts_of_all_ways_holds : PySem.Challenge.rw_slantways_k31_whole_counts_of_all_ways.Holds := by
  exact DK.law_holds DK.checked
