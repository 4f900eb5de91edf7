import PyProof.Rows.All
import Wide.All
import OpenK.AllK
import Wide.FinOn
import KE.KStateDown
import HandS.ForMost
import HandS.More
import HandS.Defaults
import HandS.Property
import HandS.ClsMeth
import HandS.Star
import HandS.Head0
import HandS.Head1
import HandS.Head2
import HandS.HeadEnd
import HandS.HeadHook1
import HandS.HeadHook2
import HandS.HeadNt
import PySem.Challenge.RW_mostkept_k10_whole_one_ordered_group
import KE.KFmtOwn
import KE.GoesEnum
import KE.GoesMore
import PyProof.ListMulRoad
import PyProof.FactsAll.tuple_2
import HandS.IsInst
import HandS.TupMul
import HandS.TupAny
import HandS.Wide
import HandS.Walk
import HandS.Zip
import HandS.Style
import HandS.SetFor
import HandS.NoneIn
import HandS.SlotsOwn
import HandS.Evl
set_option Elab.async false
set_option linter.all false
set_option maxRecDepth 100000
set_option maxHeartbeats 0

/-! the text by places -/
namespace Mo
open PySem PySem.Spec PyProof.Rows L2
def top (i : Nat) : Stmt := PySem.Challenge.pw_mostkept_k10_whole_one_ordered_group.main.body.getD i (.Pass ⟨0, 0, 0, 0⟩)
/-! facts of the top, each a Bool over the written part -/
inductive Fx where
  | fa (f : He.Fa)
  | same (x m y : Str)
  | stat (x m : Str)
  | prop (x m : Str)
  | bltn (x m : Str) (id : String)
  | kit (x y : Str)
  | kcls (x : Str)
  | read (x : Str)
abbrev cA (K : PySem.W.Frag) (x : Str) : Addr := He.ga K x
def Fx.ok (K : PySem.W.Frag) : Fx → Bool
  | .fa f => f.ok K
  | .same x m y => decide (He.ma K (cA K x) m = He.ma K (cA K y) m)
  | .stat x m => He5.wrapB K (cA K x) "staticmethod" "staticmethod.__get__" m && PySem.W.keepIn K (.ref (He5.wf K (cA K x) "staticmethod" m))
  | .prop x m => He.eqO (PySem.W.findIn K (.ref (cA K x)) m) (some (some (.ref (He.ma K (cA K x) m)))) && (He.eqO (PySem.W.specialIn K (.ref (He.ma K (cA K x) m)) "__get__") (some (some (.builtin "property.__get__"))) &&
      (decide (PySem.W.takesIn K (.ref (He.ma K (cA K x) m)) = some true) && (match PySem.W.recIn K (He.ma K (cA K x) m) "property" with
    | some (.ref _ :: _) => true
    | _ => false)))
  | .bltn x m id => He.eqO (PySem.W.findIn K (.ref (cA K x)) m) (some (some (.builtin id)))
  | .kit x y => decide (PySem.W.kitOne K (.ref (cA K x)) (.ref (cA K y)) = some true)
  | .kcls x => He.eqO (PySem.W.findIn K (.ref (cA K x)) "__class__") (some (some (.builtin "object.__class__"))) && (He.eqO (PySem.W.specialIn K (.builtin "object.__class__") "__get__") (some (some (.builtin "getset_descriptor.__get__"))) &&
      (decide (PySem.W.takesIn K (.builtin "object.__class__") = some true) && decide (PySem.W.mroIn K (cA K x) (.type "object") = some true)))
  | .read x => PySem.W.readsIn K (cA K x) (.type "type") && He.eqO (PySem.W.specialIn K (.ref (cA K x)) "__getattribute__") (some (some (.builtin "type.__getattribute__")))

def fx : List Fx := [
  .fa (.glo "is_integer"),
  .fa (.glo "is_index"),
  .fa (.glo "common_divisor"),
  .fa (.glo "reduced"),
  .fa (.glo "is_fraction"),
  .fa (.glo "are_indices"),
  .fa (.glo "chance_of_rows"),
  .fa (.glo "_law_dice"),
  .fa (.glo "_law_pull"),
  .fa (.glo "_law_lowest"),
  .fa (.glo "_law_weight"),
  .fa (.glo "_law_made"),
  .fa (.glo "_law_amount"),
  .fa (.glo "_law_threes_right"),
  .fa (.glo "_law_loads_right"),
  .fa (.glo "_law_sets"),
  .fa (.glo "_law_loss"),
  .fa (.glo "_law_chances_right"),
  .fa (.glo "_law_powers_right"),
  .fa (.glo "law"),
  .fa (.glo "Scale"),
  .fa (.glo "SumScale"),
  .fa (.glo "ClassScale"),
  .fa (.glo "OddsScale"),
  .fa (.free "len"),
  .fa (.free "isinstance"),
  .fa (.free "int"),
  .fa (.free "bool"),
  .fa (.free "tuple"),
  .fa (.free "list"),
  .fa (.free "range"),
  .fa (.free "all"),
  .fa (.free "sum"),
  .fa (.free "max"),
  .fa (.free "min"),
  .fa (.free "abs"),
  .fa (.free "enumerate"),
  .fa (.free "zip"),
  .fa (.int "MAX_SIZE" 4),
  .fa (.int "MAX_ODDS" 1000000),
  .fa (.int "MOST_WEIGHTS" 200),
  .fa (.str "SUMS" "sums"),
  .fa (.str "CLASSES" "classes"),
  .fa (.str "ODDS" "odds"),
  .fa (.cls "SumScale"),
  .fa (.noat "SumScale" "own_word"),
  .fa (.noat "SumScale" "own_size"),
  .fa (.noat "SumScale" "own_zero"),
  .fa (.noat "SumScale" "own_one"),
  .fa (.mkr "SumScale"),
  .same "SumScale" "__init__" "Scale",
  .fa (.meth "SumScale" "has_form"),
  .fa (.meth "SumScale" "has_weight"),
  .fa (.meth "SumScale" "added"),
  .fa (.meth "SumScale" "opposite"),
  .fa (.meth "SumScale" "total_in"),
  .fa (.meth "SumScale" "before"),
  .fa (.meth "SumScale" "is_weight"),
  .same "SumScale" "is_weight" "Scale",
  .fa (.meth "SumScale" "__contains__"),
  .same "SumScale" "__contains__" "Scale",
  .fa (.meth "SumScale" "require_amount"),
  .same "SumScale" "require_amount" "Scale",
  .fa (.meth "SumScale" "require_amounts"),
  .same "SumScale" "require_amounts" "Scale",
  .fa (.meth "SumScale" "plus"),
  .same "SumScale" "plus" "Scale",
  .fa (.meth "SumScale" "plus_all"),
  .same "SumScale" "plus_all" "Scale",
  .fa (.meth "SumScale" "minus"),
  .same "SumScale" "minus" "Scale",
  .fa (.meth "SumScale" "negative"),
  .same "SumScale" "negative" "Scale",
  .fa (.meth "SumScale" "twice"),
  .same "SumScale" "twice" "Scale",
  .fa (.meth "SumScale" "is_less"),
  .same "SumScale" "is_less" "Scale",
  .fa (.meth "SumScale" "sign"),
  .same "SumScale" "sign" "Scale",
  .fa (.meth "SumScale" "greatest"),
  .same "SumScale" "greatest" "Scale",
  .fa (.meth "SumScale" "order_of"),
  .same "SumScale" "order_of" "Scale",
  .fa (.meth "SumScale" "ranked"),
  .same "SumScale" "ranked" "Scale",
  .fa (.meth "SumScale" "merged"),
  .same "SumScale" "merged" "Scale",
  .fa (.meth "SumScale" "__eq__"),
  .same "SumScale" "__eq__" "Scale",
  .prop "SumScale" "zero",
  .same "SumScale" "zero" "Scale",
  .bltn "SumScale" "__ne__" "object.__ne__",
  .kit "SumScale" "Scale",
  .kcls "SumScale",
  .fa (.cls "ClassScale"),
  .fa (.noat "ClassScale" "own_word"),
  .fa (.noat "ClassScale" "own_size"),
  .fa (.noat "ClassScale" "own_zero"),
  .fa (.noat "ClassScale" "own_one"),
  .fa (.mkr "ClassScale"),
  .same "ClassScale" "__init__" "Scale",
  .fa (.meth "ClassScale" "has_form"),
  .fa (.meth "ClassScale" "has_weight"),
  .fa (.meth "ClassScale" "added"),
  .fa (.meth "ClassScale" "opposite"),
  .fa (.meth "ClassScale" "total_in"),
  .fa (.meth "ClassScale" "before"),
  .fa (.meth "ClassScale" "is_weight"),
  .same "ClassScale" "is_weight" "Scale",
  .fa (.meth "ClassScale" "__contains__"),
  .same "ClassScale" "__contains__" "Scale",
  .fa (.meth "ClassScale" "require_amount"),
  .same "ClassScale" "require_amount" "Scale",
  .fa (.meth "ClassScale" "require_amounts"),
  .same "ClassScale" "require_amounts" "Scale",
  .fa (.meth "ClassScale" "plus"),
  .same "ClassScale" "plus" "Scale",
  .fa (.meth "ClassScale" "plus_all"),
  .same "ClassScale" "plus_all" "Scale",
  .fa (.meth "ClassScale" "minus"),
  .same "ClassScale" "minus" "Scale",
  .fa (.meth "ClassScale" "negative"),
  .same "ClassScale" "negative" "Scale",
  .fa (.meth "ClassScale" "twice"),
  .same "ClassScale" "twice" "Scale",
  .fa (.meth "ClassScale" "is_less"),
  .same "ClassScale" "is_less" "Scale",
  .fa (.meth "ClassScale" "sign"),
  .same "ClassScale" "sign" "Scale",
  .fa (.meth "ClassScale" "greatest"),
  .same "ClassScale" "greatest" "Scale",
  .fa (.meth "ClassScale" "order_of"),
  .same "ClassScale" "order_of" "Scale",
  .fa (.meth "ClassScale" "ranked"),
  .same "ClassScale" "ranked" "Scale",
  .fa (.meth "ClassScale" "merged"),
  .same "ClassScale" "merged" "Scale",
  .fa (.meth "ClassScale" "__eq__"),
  .same "ClassScale" "__eq__" "Scale",
  .prop "ClassScale" "zero",
  .same "ClassScale" "zero" "Scale",
  .bltn "ClassScale" "__ne__" "object.__ne__",
  .kit "ClassScale" "Scale",
  .kcls "ClassScale",
  .fa (.cls "OddsScale"),
  .fa (.noat "OddsScale" "own_word"),
  .fa (.noat "OddsScale" "own_size"),
  .fa (.noat "OddsScale" "own_zero"),
  .fa (.noat "OddsScale" "own_one"),
  .fa (.mkr "OddsScale"),
  .same "OddsScale" "__init__" "Scale",
  .fa (.meth "OddsScale" "has_form"),
  .fa (.meth "OddsScale" "has_weight"),
  .fa (.meth "OddsScale" "added"),
  .fa (.meth "OddsScale" "opposite"),
  .fa (.meth "OddsScale" "total_in"),
  .fa (.meth "OddsScale" "before"),
  .fa (.meth "OddsScale" "is_weight"),
  .same "OddsScale" "is_weight" "Scale",
  .fa (.meth "OddsScale" "__contains__"),
  .same "OddsScale" "__contains__" "Scale",
  .fa (.meth "OddsScale" "require_amount"),
  .same "OddsScale" "require_amount" "Scale",
  .fa (.meth "OddsScale" "require_amounts"),
  .same "OddsScale" "require_amounts" "Scale",
  .fa (.meth "OddsScale" "plus"),
  .same "OddsScale" "plus" "Scale",
  .fa (.meth "OddsScale" "plus_all"),
  .same "OddsScale" "plus_all" "Scale",
  .fa (.meth "OddsScale" "minus"),
  .same "OddsScale" "minus" "Scale",
  .fa (.meth "OddsScale" "negative"),
  .same "OddsScale" "negative" "Scale",
  .fa (.meth "OddsScale" "twice"),
  .same "OddsScale" "twice" "Scale",
  .fa (.meth "OddsScale" "is_less"),
  .same "OddsScale" "is_less" "Scale",
  .fa (.meth "OddsScale" "sign"),
  .same "OddsScale" "sign" "Scale",
  .fa (.meth "OddsScale" "greatest"),
  .same "OddsScale" "greatest" "Scale",
  .fa (.meth "OddsScale" "order_of"),
  .same "OddsScale" "order_of" "Scale",
  .fa (.meth "OddsScale" "ranked"),
  .same "OddsScale" "ranked" "Scale",
  .fa (.meth "OddsScale" "merged"),
  .same "OddsScale" "merged" "Scale",
  .fa (.meth "OddsScale" "__eq__"),
  .same "OddsScale" "__eq__" "Scale",
  .prop "OddsScale" "zero",
  .same "OddsScale" "zero" "Scale",
  .bltn "OddsScale" "__ne__" "object.__ne__",
  .kit "OddsScale" "Scale",
  .kcls "OddsScale",
  .read "Scale",
  .stat "Scale" "sums",
  .stat "Scale" "classes",
  .stat "Scale" "odds"]
def d0 : He5.DefA := ⟨fun K => He.ga K "is_integer", "is_integer", "is_integer", defArgs (top 7), defBody (top 7), defScope (top 7), [], []⟩
def d1 : He5.DefA := ⟨fun K => He.ga K "is_index", "is_index", "is_index", defArgs (top 8), defBody (top 8), defScope (top 8), [], []⟩
def d2 : He5.DefA := ⟨fun K => He.ga K "common_divisor", "common_divisor", "common_divisor", defArgs (top 17), defBody (top 17), defScope (top 17), [], []⟩
def d3 : He5.DefA := ⟨fun K => He.ga K "reduced", "reduced", "reduced", defArgs (top 18), defBody (top 18), defScope (top 18), [], []⟩
def d4 : He5.DefA := ⟨fun K => He.ga K "is_fraction", "is_fraction", "is_fraction", defArgs (top 19), defBody (top 19), defScope (top 19), [], []⟩
def d5 : He5.DefA := ⟨fun K => He.ga K "are_indices", "are_indices", "are_indices", defArgs (top 24), defBody (top 24), defScope (top 24), [], []⟩
def d6 : He5.DefA := ⟨fun K => He.ga K "chance_of_rows", "chance_of_rows", "chance_of_rows", defArgs (top 25), defBody (top 25), defScope (top 25), [], []⟩
def d7 : He5.DefA := ⟨fun K => He.ga K "_law_dice", "_law_dice", "_law_dice", defArgs (top 27), defBody (top 27), defScope (top 27), [], []⟩
def d8 : He5.DefA := ⟨fun K => He.ga K "_law_pull", "_law_pull", "_law_pull", defArgs (top 28), defBody (top 28), defScope (top 28), [], []⟩
def d9 : He5.DefA := ⟨fun K => He.ga K "_law_lowest", "_law_lowest", "_law_lowest", defArgs (top 31), defBody (top 31), defScope (top 31), [], []⟩
def d10 : He5.DefA := ⟨fun K => He.ga K "_law_weight", "_law_weight", "_law_weight", defArgs (top 32), defBody (top 32), defScope (top 32), [], []⟩
def d11 : He5.DefA := ⟨fun K => He.ga K "_law_made", "_law_made", "_law_made", defArgs (top 33), defBody (top 33), defScope (top 33), [], []⟩
def d12 : He5.DefA := ⟨fun K => He.ga K "_law_amount", "_law_amount", "_law_amount", defArgs (top 34), defBody (top 34), defScope (top 34), [], []⟩
def d13 : He5.DefA := ⟨fun K => He.ga K "_law_threes_right", "_law_threes_right", "_law_threes_right", defArgs (top 35), defBody (top 35), defScope (top 35), [], []⟩
def d14 : He5.DefA := ⟨fun K => He.ga K "_law_loads_right", "_law_loads_right", "_law_loads_right", defArgs (top 36), defBody (top 36), defScope (top 36), [], []⟩
def d15 : He5.DefA := ⟨fun K => He.ga K "_law_sets", "_law_sets", "_law_sets", defArgs (top 37), defBody (top 37), defScope (top 37), [], []⟩
def d16 : He5.DefA := ⟨fun K => He.ga K "_law_loss", "_law_loss", "_law_loss", defArgs (top 38), defBody (top 38), defScope (top 38), [], []⟩
def d17 : He5.DefA := ⟨fun K => He.ga K "_law_chances_right", "_law_chances_right", "_law_chances_right", defArgs (top 39), defBody (top 39), defScope (top 39), [], []⟩
def d18 : He5.DefA := ⟨fun K => He.ga K "_law_powers_right", "_law_powers_right", "_law_powers_right", defArgs (top 40), defBody (top 40), defScope (top 40), [], []⟩
def d19 : He5.DefA := ⟨fun K => He.ga K "law", "law", "law", defArgs (top 41), defBody (top 41), defScope (top 41), [], []⟩
def d20 : He5.DefA := ⟨fun K => He.ma K (He.ga K "Scale") "__init__", "__init__", "Scale.__init__", defArgs (inClass (top 20) 0), defBody (inClass (top 20) 0), defScope (inClass (top 20) 0), [], []⟩
def d21 : He5.DefA := ⟨fun K => He.ma K (He.ga K "Scale") "is_weight", "is_weight", "Scale.is_weight", defArgs (inClass (top 20) 8), defBody (inClass (top 20) 8), defScope (inClass (top 20) 8), [], []⟩
def d22 : He5.DefA := ⟨fun K => He.ma K (He.ga K "Scale") "__contains__", "__contains__", "Scale.__contains__", defArgs (inClass (top 20) 10), defBody (inClass (top 20) 10), defScope (inClass (top 20) 10), [], []⟩
def d23 : He5.DefA := ⟨fun K => He.ma K (He.ga K "Scale") "require_amount", "require_amount", "Scale.require_amount", defArgs (inClass (top 20) 11), defBody (inClass (top 20) 11), defScope (inClass (top 20) 11), [], []⟩
def d24 : He5.DefA := ⟨fun K => He.ma K (He.ga K "Scale") "require_amounts", "require_amounts", "Scale.require_amounts", defArgs (inClass (top 20) 12), defBody (inClass (top 20) 12), defScope (inClass (top 20) 12), [], []⟩
def d25 : He5.DefA := ⟨fun K => He.ma K (He.ga K "Scale") "plus", "plus", "Scale.plus", defArgs (inClass (top 20) 13), defBody (inClass (top 20) 13), defScope (inClass (top 20) 13), [], []⟩
def d26 : He5.DefA := ⟨fun K => He.ma K (He.ga K "Scale") "plus_all", "plus_all", "Scale.plus_all", defArgs (inClass (top 20) 14), defBody (inClass (top 20) 14), defScope (inClass (top 20) 14), [], []⟩
def d27 : He5.DefA := ⟨fun K => He.ma K (He.ga K "Scale") "minus", "minus", "Scale.minus", defArgs (inClass (top 20) 15), defBody (inClass (top 20) 15), defScope (inClass (top 20) 15), [], []⟩
def d28 : He5.DefA := ⟨fun K => He.ma K (He.ga K "Scale") "negative", "negative", "Scale.negative", defArgs (inClass (top 20) 16), defBody (inClass (top 20) 16), defScope (inClass (top 20) 16), [], []⟩
def d29 : He5.DefA := ⟨fun K => He.ma K (He.ga K "Scale") "twice", "twice", "Scale.twice", defArgs (inClass (top 20) 17), defBody (inClass (top 20) 17), defScope (inClass (top 20) 17), [], []⟩
def d30 : He5.DefA := ⟨fun K => He.ma K (He.ga K "Scale") "is_less", "is_less", "Scale.is_less", defArgs (inClass (top 20) 18), defBody (inClass (top 20) 18), defScope (inClass (top 20) 18), [], []⟩
def d31 : He5.DefA := ⟨fun K => He.ma K (He.ga K "Scale") "sign", "sign", "Scale.sign", defArgs (inClass (top 20) 19), defBody (inClass (top 20) 19), defScope (inClass (top 20) 19), [], []⟩
def d32 : He5.DefA := ⟨fun K => He.ma K (He.ga K "Scale") "greatest", "greatest", "Scale.greatest", defArgs (inClass (top 20) 20), defBody (inClass (top 20) 20), defScope (inClass (top 20) 20), [], []⟩
def d33 : He5.DefA := ⟨fun K => He.ma K (He.ga K "Scale") "order_of", "order_of", "Scale.order_of", defArgs (inClass (top 20) 22), defBody (inClass (top 20) 22), defScope (inClass (top 20) 22), [], []⟩
def d34 : He5.DefA := ⟨fun K => He.ma K (He.ga K "Scale") "ranked", "ranked", "Scale.ranked", defArgs (inClass (top 20) 23), defBody (inClass (top 20) 23), defScope (inClass (top 20) 23), [], []⟩
def d35 : He5.DefA := ⟨fun K => He.ma K (He.ga K "Scale") "merged", "merged", "Scale.merged", defArgs (inClass (top 20) 24), defBody (inClass (top 20) 24), defScope (inClass (top 20) 24), [], []⟩
def d36 : He5.DefA := ⟨fun K => He.ma K (He.ga K "Scale") "__eq__", "__eq__", "Scale.__eq__", defArgs (inClass (top 20) 25), defBody (inClass (top 20) 25), defScope (inClass (top 20) 25), [], []⟩
def d37 : He5.DefA := ⟨fun K => He.ma K (He.ga K "SumScale") "has_form", "has_form", "SumScale.has_form", defArgs (inClass (top 21) 0), defBody (inClass (top 21) 0), defScope (inClass (top 21) 0), [], []⟩
def d38 : He5.DefA := ⟨fun K => He.ma K (He.ga K "SumScale") "has_weight", "has_weight", "SumScale.has_weight", defArgs (inClass (top 21) 1), defBody (inClass (top 21) 1), defScope (inClass (top 21) 1), [], []⟩
def d39 : He5.DefA := ⟨fun K => He.ma K (He.ga K "SumScale") "added", "added", "SumScale.added", defArgs (inClass (top 21) 2), defBody (inClass (top 21) 2), defScope (inClass (top 21) 2), [], []⟩
def d40 : He5.DefA := ⟨fun K => He.ma K (He.ga K "SumScale") "opposite", "opposite", "SumScale.opposite", defArgs (inClass (top 21) 3), defBody (inClass (top 21) 3), defScope (inClass (top 21) 3), [], []⟩
def d41 : He5.DefA := ⟨fun K => He.ma K (He.ga K "SumScale") "total_in", "total_in", "SumScale.total_in", defArgs (inClass (top 21) 4), defBody (inClass (top 21) 4), defScope (inClass (top 21) 4), [], []⟩
def d42 : He5.DefA := ⟨fun K => He.ma K (He.ga K "SumScale") "before", "before", "SumScale.before", defArgs (inClass (top 21) 5), defBody (inClass (top 21) 5), defScope (inClass (top 21) 5), [], []⟩
def d43 : He5.DefA := ⟨fun K => He.ma K (He.ga K "ClassScale") "has_form", "has_form", "ClassScale.has_form", defArgs (inClass (top 22) 0), defBody (inClass (top 22) 0), defScope (inClass (top 22) 0), [], []⟩
def d44 : He5.DefA := ⟨fun K => He.ma K (He.ga K "ClassScale") "has_weight", "has_weight", "ClassScale.has_weight", defArgs (inClass (top 22) 1), defBody (inClass (top 22) 1), defScope (inClass (top 22) 1), [], []⟩
def d45 : He5.DefA := ⟨fun K => He.ma K (He.ga K "ClassScale") "added", "added", "ClassScale.added", defArgs (inClass (top 22) 2), defBody (inClass (top 22) 2), defScope (inClass (top 22) 2), [], []⟩
def d46 : He5.DefA := ⟨fun K => He.ma K (He.ga K "ClassScale") "opposite", "opposite", "ClassScale.opposite", defArgs (inClass (top 22) 3), defBody (inClass (top 22) 3), defScope (inClass (top 22) 3), [], []⟩
def d47 : He5.DefA := ⟨fun K => He.ma K (He.ga K "ClassScale") "total_in", "total_in", "ClassScale.total_in", defArgs (inClass (top 22) 4), defBody (inClass (top 22) 4), defScope (inClass (top 22) 4), [], []⟩
def d48 : He5.DefA := ⟨fun K => He.ma K (He.ga K "ClassScale") "before", "before", "ClassScale.before", defArgs (inClass (top 22) 5), defBody (inClass (top 22) 5), defScope (inClass (top 22) 5), [], []⟩
def d49 : He5.DefA := ⟨fun K => He.ma K (He.ga K "OddsScale") "has_form", "has_form", "OddsScale.has_form", defArgs (inClass (top 23) 0), defBody (inClass (top 23) 0), defScope (inClass (top 23) 0), [], []⟩
def d50 : He5.DefA := ⟨fun K => He.ma K (He.ga K "OddsScale") "has_weight", "has_weight", "OddsScale.has_weight", defArgs (inClass (top 23) 1), defBody (inClass (top 23) 1), defScope (inClass (top 23) 1), [], []⟩
def d51 : He5.DefA := ⟨fun K => He.ma K (He.ga K "OddsScale") "added", "added", "OddsScale.added", defArgs (inClass (top 23) 2), defBody (inClass (top 23) 2), defScope (inClass (top 23) 2), [], []⟩
def d52 : He5.DefA := ⟨fun K => He.ma K (He.ga K "OddsScale") "opposite", "opposite", "OddsScale.opposite", defArgs (inClass (top 23) 3), defBody (inClass (top 23) 3), defScope (inClass (top 23) 3), [], []⟩
def d53 : He5.DefA := ⟨fun K => He.ma K (He.ga K "OddsScale") "total_in", "total_in", "OddsScale.total_in", defArgs (inClass (top 23) 4), defBody (inClass (top 23) 4), defScope (inClass (top 23) 4), [], []⟩
def d54 : He5.DefA := ⟨fun K => He.ma K (He.ga K "OddsScale") "before", "before", "OddsScale.before", defArgs (inClass (top 23) 5), defBody (inClass (top 23) 5), defScope (inClass (top 23) 5), [], []⟩
def d55 : He5.DefA := ⟨fun K => He5.wf K (He.ga K "Scale") "staticmethod" "sums", "sums", "Scale.sums", defArgs (inClass (top 20) 1), defBody (inClass (top 20) 1), defScope (inClass (top 20) 1), [], []⟩
def d56 : He5.DefA := ⟨fun K => He5.wf K (He.ga K "Scale") "staticmethod" "classes", "classes", "Scale.classes", defArgs (inClass (top 20) 2), defBody (inClass (top 20) 2), defScope (inClass (top 20) 2), [], []⟩
def d57 : He5.DefA := ⟨fun K => He5.wf K (He.ga K "Scale") "staticmethod" "odds", "odds", "Scale.odds", defArgs (inClass (top 20) 3), defBody (inClass (top 20) 3), defScope (inClass (top 20) 3), [], []⟩
def d58 : He5.DefA := ⟨fun K => He5.wf K (He.ga K "Scale") "property" "zero", "zero", "Scale.zero", defArgs (inClass (top 20) 6), defBody (inClass (top 20) 6), defScope (inClass (top 20) 6), [], []⟩
def fnA : List He5.DefA := [d0, d1, d2, d3, d4, d5, d6, d7, d8, d9, d10, d11, d12, d13, d14, d15, d16, d17, d18, d19, d20, d21, d22, d23, d24, d25, d26, d27, d28, d29, d30, d31, d32, d33, d34]
def fnB : List He5.DefA := [d35, d36, d37, d38, d39, d40, d41, d42, d43, d44, d45, d46, d47, d48, d49, d50, d51, d52, d53, d54, d55, d56, d57, d58]
def fn : List He5.DefA := fnA ++ fnB
def obsM (K : PySem.W.Frag) : He.AlD := ((fx.all fun f => f.ok K) && fn.all fun d => d.ok K, fn.map fun d => He5.fnA K (d.at_ K))
def valM : He.AlD := (true, fn.map He5.DefA.val)
def SaysM (K : PySem.W.Frag) : Prop := obsM K = valM
def obsMG (n : Nat) (g : Addr → Option Obj) : He.AlD := obsM (He.frG g (He5.asA g n))
def hookM (n : Nat) : PySem.W.Hook where
  α := He.AlD
  obs := fun s => obsMG n s.heap.get?
  val := fun _ => valM
  says := fun _ h => ∃ K : PySem.W.Frag, K.In h ∧ SaysM K
  of := fun _ _ e => ⟨_, He.frG_in, e⟩
  keeps := fun _ _ _ ⟨K, hK, c⟩ k => ⟨K, PySem.W.Frag.In.keeps hK k, c⟩
theorem obsMG_eq {n : Nat} {g : Addr → Option Obj} {s : Shared} (h : ∀ a, g a = s.heap.get? a) : obsMG n g = (hookM n).obs s := by
  have e : g = s.heap.get? := funext h
  rw [e] <;> rfl
theorem SaysM.fact {K : PySem.W.Frag} (c : SaysM K) (i : Nat) {f : Fx} (h : fx[i]? = some f := by rfl) : f.ok K = true := by
  have c1 := (He.ba (show ((fx.all fun f => f.ok K) && fn.all fun d => d.ok K) = true from congrArg (fun z : He.AlD => z.1) c)).1
  exact List.all_eq_true.mp c1 f (List.mem_of_getElem? h)
theorem SaysM.def_ {K : PySem.W.Frag} (c : SaysM K) (i : Nat) {d : He5.DefA} (h : fn[i]? = some d := by rfl) : ∃ fd, L2.FunD K d.name d.qual d.params d.body d.scope (d.dvs K) (d.kws K) (d.at_ K) fd := by
  have c2 := (He.ba (show ((fx.all fun f => f.ok K) && fn.all fun d => d.ok K) = true from congrArg (fun z : He.AlD => z.1) c)).2
  have e : fn.map (fun d => He5.fnA K (d.at_ K)) = fn.map He5.DefA.val := congrArg (fun z : He.AlD => z.2) c
  have e2 : (fn.map fun d => He5.fnA K (d.at_ K))[i]? = (fn.map He5.DefA.val)[i]? := by rw [e]
  rw [List.getElem?_map, List.getElem?_map, h] at e2
  exact He5.DefA.funD (Option.some.inj e2) (List.all_eq_true.mp c2 d (List.mem_of_getElem? h))

/-! what the walk takes -/
/-- a def of the module -/
def Gd (K : PySem.W.Frag) (mg : Str → Option Value) (x : Str) (st : Stmt) : Prop := ∃ f fd, mg x = some (.ref f) ∧ Fun K x x st f fd
/-- a method of the class at C -/
def Md (K : PySem.W.Frag) (C : Addr) (m q : Str) (st : Stmt) : Prop := ∃ f fd, Meth K C m f ∧ Fun K m q st f fd
/-- a static method of the class at C -/
def Sd (K : PySem.W.Frag) (C : Addr) (m q : Str) (st : Stmt) : Prop := ∃ p f fd, PySem.W.findCls K (.ref C) (.type "type") m = some (.get (.builtin "staticmethod.__get__") (.ref p) .none (.ref C)) ∧ (∃ rest, PySem.W.recIn K p "staticmethod" = some (.ref f :: rest)) ∧ Fun K m q st f fd
structure CT (K : PySem.W.Frag) (C0 C : Addr) (n : Nat) (q0 q1 q2 q3 q4 q5 : Str) : Prop where
  cl : Cls K C
  n0 : NoAttr K C "own_word"
  n1 : NoAttr K C "own_size"
  n2 : NoAttr K C "own_zero"
  n3 : NoAttr K C "own_one"
  mkr : ∃ f fd, Mk K C f ∧ Fun K "__init__" "Scale.__init__" (inClass (top 20) 0) f fd
  has_form : Md K C "has_form" q0 (inClass (top n) 0)
  has_weight : Md K C "has_weight" q1 (inClass (top n) 1)
  added : Md K C "added" q2 (inClass (top n) 2)
  opposite : Md K C "opposite" q3 (inClass (top n) 3)
  total_in : Md K C "total_in" q4 (inClass (top n) 4)
  before : Md K C "before" q5 (inClass (top n) 5)
  is_weight : Md K C "is_weight" "Scale.is_weight" (inClass (top 20) 8)
  xcontainsx : Md K C "__contains__" "Scale.__contains__" (inClass (top 20) 10)
  require_amount : Md K C "require_amount" "Scale.require_amount" (inClass (top 20) 11)
  require_amounts : Md K C "require_amounts" "Scale.require_amounts" (inClass (top 20) 12)
  plus : Md K C "plus" "Scale.plus" (inClass (top 20) 13)
  plus_all : Md K C "plus_all" "Scale.plus_all" (inClass (top 20) 14)
  minus : Md K C "minus" "Scale.minus" (inClass (top 20) 15)
  negative : Md K C "negative" "Scale.negative" (inClass (top 20) 16)
  twice : Md K C "twice" "Scale.twice" (inClass (top 20) 17)
  is_less : Md K C "is_less" "Scale.is_less" (inClass (top 20) 18)
  sign : Md K C "sign" "Scale.sign" (inClass (top 20) 19)
  greatest : Md K C "greatest" "Scale.greatest" (inClass (top 20) 20)
  order_of : Md K C "order_of" "Scale.order_of" (inClass (top 20) 22)
  ranked : Md K C "ranked" "Scale.ranked" (inClass (top 20) 23)
  merged : Md K C "merged" "Scale.merged" (inClass (top 20) 24)
  xeqx : Md K C "__eq__" "Scale.__eq__" (inClass (top 20) 25)
  zero : ∃ p f fd, PropOf K C "zero" p f ∧ Fun K "zero" "Scale.zero" (inClass (top 20) 6) f fd
  ne : PySem.W.findIn K (.ref C) "__ne__" = some (some (.builtin "object.__ne__"))
  kit : PySem.W.kitOne K (.ref C) (.ref C0) = some true
  ca : PySem.W.findIn K (.ref C) "__class__" = some (some (.builtin "object.__class__"))
  cn : PySem.W.specialIn K (.builtin "object.__class__") "__get__" = some (some (.builtin "getset_descriptor.__get__"))
  ct : PySem.W.takesIn K (.builtin "object.__class__") = some true
  cm : PySem.W.mroIn K C (.type "object") = some true
structure Txt (K : PySem.W.Frag) (mg : Str → Option Value) (C0 C1 C2 C3 : Addr) : Prop where
  dis_integer : Gd K mg "is_integer" (top 7)
  dis_index : Gd K mg "is_index" (top 8)
  dcommon_divisor : Gd K mg "common_divisor" (top 17)
  dreduced : Gd K mg "reduced" (top 18)
  dis_fraction : Gd K mg "is_fraction" (top 19)
  dare_indices : Gd K mg "are_indices" (top 24)
  dchance_of_rows : Gd K mg "chance_of_rows" (top 25)
  d_law_dice : Gd K mg "_law_dice" (top 27)
  d_law_pull : Gd K mg "_law_pull" (top 28)
  d_law_lowest : Gd K mg "_law_lowest" (top 31)
  d_law_weight : Gd K mg "_law_weight" (top 32)
  d_law_made : Gd K mg "_law_made" (top 33)
  d_law_amount : Gd K mg "_law_amount" (top 34)
  d_law_threes_right : Gd K mg "_law_threes_right" (top 35)
  d_law_loads_right : Gd K mg "_law_loads_right" (top 36)
  d_law_sets : Gd K mg "_law_sets" (top 37)
  d_law_loss : Gd K mg "_law_loss" (top 38)
  d_law_chances_right : Gd K mg "_law_chances_right" (top 39)
  d_law_powers_right : Gd K mg "_law_powers_right" (top 40)
  dlaw : Gd K mg "law" (top 41)
  mg0 : mg "Scale" = some (.ref C0)
  mg1 : mg "SumScale" = some (.ref C1)
  mg2 : mg "ClassScale" = some (.ref C2)
  mg3 : mg "OddsScale" = some (.ref C3)
  flen : mg "len" = none
  fisinstance : mg "isinstance" = none
  fint : mg "int" = none
  fbool : mg "bool" = none
  ftuple : mg "tuple" = none
  flist : mg "list" = none
  frange : mg "range" = none
  fall : mg "all" = none
  fsum : mg "sum" = none
  fmax : mg "max" = none
  fmin : mg "min" = none
  fabs : mg "abs" = none
  fenumerate : mg "enumerate" = none
  fzip : mg "zip" = none
  iMAX_SIZE : ∃ t, mg "MAX_SIZE" = some (.int 4 t)
  iMAX_ODDS : ∃ t, mg "MAX_ODDS" = some (.int 1000000 t)
  iMOST_WEIGHTS : ∃ t, mg "MOST_WEIGHTS" = some (.int 200 t)
  sSUMS : ∃ t, mg "SUMS" = some (.str "sums" t)
  sCLASSES : ∃ t, mg "CLASSES" = some (.str "classes" t)
  sODDS : ∃ t, mg "ODDS" = some (.str "odds" t)
  c1 : CT K C0 C1 21 "SumScale.has_form" "SumScale.has_weight" "SumScale.added" "SumScale.opposite" "SumScale.total_in" "SumScale.before"
  c2 : CT K C0 C2 22 "ClassScale.has_form" "ClassScale.has_weight" "ClassScale.added" "ClassScale.opposite" "ClassScale.total_in" "ClassScale.before"
  c3 : CT K C0 C3 23 "OddsScale.has_form" "OddsScale.has_weight" "OddsScale.added" "OddsScale.opposite" "OddsScale.total_in" "OddsScale.before"
  rd : ClX.CRead K C0 (.type "type")
  st_sums : Sd K C0 "sums" "Scale.sums" (inClass (top 20) 1)
  st_classes : Sd K C0 "classes" "Scale.classes" (inClass (top 20) 2)
  st_odds : Sd K C0 "odds" "Scale.odds" (inClass (top 20) 3)

section
variable {K : PySem.W.Frag} {h : Heap} {mg : Str → Option Value}
theorem gd_of {x : Str} {st : Stmt} (e : mg x = some (.ref (He.ga K x))) {kws : List (Str × V)} (d : ∃ fd, L2.FunD K x x (defArgs st) (defBody st) (defScope st) [] kws (He.ga K x) fd) : Gd K mg x st := by
  obtain ⟨fd, d⟩ := d
  exact ⟨_, fd, e, He5.fun_of d⟩
theorem md_own {x m q : Str} {st : Stmt} (c : (Fx.fa (.meth x m)).ok K = true) {kws : List (Str × V)} (d : ∃ fd, L2.FunD K m q (defArgs st) (defBody st) (defScope st) [] kws (He.ma K (He.ga K x) m) fd) : Md K (cA K x) m q st := by
  obtain ⟨fd, d⟩ := d
  exact ⟨_, fd, He.meth_ok c, He5.fun_of d⟩
theorem md_inh {x m q y : Str} {st : Stmt} (c : (Fx.fa (.meth x m)).ok K = true) (s : (Fx.same x m y).ok K = true) {kws : List (Str × V)} (d : ∃ fd, L2.FunD K m q (defArgs st) (defBody st) (defScope st) [] kws (He.ma K (He.ga K y) m) fd) : Md K (cA K x) m q st := by
  obtain ⟨fd, d⟩ := d
  have e : He.ma K (cA K x) m = He.ma K (cA K y) m := of_decide_eq_true s
  have z := He.meth_ok c
  exact ⟨_, fd, e ▸ z, He5.fun_of d⟩
theorem mk_inh {x q y : Str} {st : Stmt} (c : (Fx.fa (.mkr x)).ok K = true) (s : (Fx.same x "__init__" y).ok K = true) {kws : List (Str × V)} (d : ∃ fd, L2.FunD K "__init__" q (defArgs st) (defBody st) (defScope st) [] kws (He.ma K (He.ga K y) "__init__") fd) :
    ∃ f fd, Mk K (cA K x) f ∧ Fun K "__init__" q st f fd := by
  obtain ⟨fd, d⟩ := d
  have e : He.ma K (cA K x) "__init__" = He.ma K (cA K y) "__init__" := of_decide_eq_true s
  have z := He.mkr_ok c
  exact ⟨_, fd, e ▸ z, He5.fun_of d⟩
theorem prop_inh {x q y m : Str} {st : Stmt} (c : (Fx.prop x m).ok K = true) (s : (Fx.same x m y).ok K = true) {kws : List (Str × V)} (d : ∃ fd, L2.FunD K m q (defArgs st) (defBody st) (defScope st) [] kws (He5.wf K (He.ga K y) "property" m) fd) :
    ∃ p f fd, PropOf K (cA K x) m p f ∧ Fun K m q st f fd := by
  obtain ⟨fd, d⟩ := d
  have e : He.ma K (cA K x) m = He.ma K (cA K y) m := of_decide_eq_true s
  obtain ⟨c1, c⟩ := He.ba c
  obtain ⟨c2, c⟩ := He.ba c
  obtain ⟨c3, c4⟩ := He.ba c
  have ew : He5.wf K (He.ga K y) "property" m = He5.wf K (He.ga K x) "property" m := by
    unfold He5.wf
    show (match PySem.W.recIn K (He.ma K (cA K y) m) "property" with
      | some (.ref f :: _) => f
      | _ => 0) = _
    rw [← e]
    rfl
  rw [ew] at d
  refine ⟨_, _, fd, ⟨He.eqO_ok c1, He.eqO_ok c2, of_decide_eq_true c3, ?_⟩, He5.fun_of d⟩
  show ∃ rest, PySem.W.recIn K (He.ma K (cA K x) m) "property" = some (.ref (match PySem.W.recIn K (He.ma K (cA K x) m) "property" with
      | some (.ref f :: _) => f
      | _ => 0) :: rest)
  split at c4
  · rename_i f r e4
    exact ⟨r, by rw [e4]⟩
  · cases c4
theorem stat_of {x m q : Str} {st : Stmt} (c : (Fx.stat x m).ok K = true) {kws : List (Str × V)} (d : ∃ fd, L2.FunD K m q (defArgs st) (defBody st) (defScope st) [] kws (He5.wf K (He.ga K x) "staticmethod" m) fd) : Sd K (cA K x) m q st := by
  obtain ⟨fd, d⟩ := d
  obtain ⟨c1, c2⟩ := He.ba c
  obtain ⟨h1, h2⟩ := He5.wrapB_ok c1
  exact ⟨_, _, fd, h1, h2, He5.fun_of d⟩
theorem read_of {x : Str} (c : (Fx.read x).ok K = true) : ClX.CRead K (cA K x) (.type "type") := by
  obtain ⟨c1, c2⟩ := He.ba c
  exact ⟨c1, He.eqO_ok c2⟩

theorem txt_of (X : K.In h) (G : h.Ns mainGlobals mg) (c : SaysM K) : Txt K mg (cA K "Scale") (cA K "SumScale") (cA K "ClassScale") (cA K "OddsScale") where
  dis_integer := gd_of (st := top 7) (He.glo_ok X G (c.fact 0 (f := .fa (.glo "is_integer")))) (c.def_ 0 (d := d0))
  dis_index := gd_of (st := top 8) (He.glo_ok X G (c.fact 1 (f := .fa (.glo "is_index")))) (c.def_ 1 (d := d1))
  dcommon_divisor := gd_of (st := top 17) (He.glo_ok X G (c.fact 2 (f := .fa (.glo "common_divisor")))) (c.def_ 2 (d := d2))
  dreduced := gd_of (st := top 18) (He.glo_ok X G (c.fact 3 (f := .fa (.glo "reduced")))) (c.def_ 3 (d := d3))
  dis_fraction := gd_of (st := top 19) (He.glo_ok X G (c.fact 4 (f := .fa (.glo "is_fraction")))) (c.def_ 4 (d := d4))
  dare_indices := gd_of (st := top 24) (He.glo_ok X G (c.fact 5 (f := .fa (.glo "are_indices")))) (c.def_ 5 (d := d5))
  dchance_of_rows := gd_of (st := top 25) (He.glo_ok X G (c.fact 6 (f := .fa (.glo "chance_of_rows")))) (c.def_ 6 (d := d6))
  d_law_dice := gd_of (st := top 27) (He.glo_ok X G (c.fact 7 (f := .fa (.glo "_law_dice")))) (c.def_ 7 (d := d7))
  d_law_pull := gd_of (st := top 28) (He.glo_ok X G (c.fact 8 (f := .fa (.glo "_law_pull")))) (c.def_ 8 (d := d8))
  d_law_lowest := gd_of (st := top 31) (He.glo_ok X G (c.fact 9 (f := .fa (.glo "_law_lowest")))) (c.def_ 9 (d := d9))
  d_law_weight := gd_of (st := top 32) (He.glo_ok X G (c.fact 10 (f := .fa (.glo "_law_weight")))) (c.def_ 10 (d := d10))
  d_law_made := gd_of (st := top 33) (He.glo_ok X G (c.fact 11 (f := .fa (.glo "_law_made")))) (c.def_ 11 (d := d11))
  d_law_amount := gd_of (st := top 34) (He.glo_ok X G (c.fact 12 (f := .fa (.glo "_law_amount")))) (c.def_ 12 (d := d12))
  d_law_threes_right := gd_of (st := top 35) (He.glo_ok X G (c.fact 13 (f := .fa (.glo "_law_threes_right")))) (c.def_ 13 (d := d13))
  d_law_loads_right := gd_of (st := top 36) (He.glo_ok X G (c.fact 14 (f := .fa (.glo "_law_loads_right")))) (c.def_ 14 (d := d14))
  d_law_sets := gd_of (st := top 37) (He.glo_ok X G (c.fact 15 (f := .fa (.glo "_law_sets")))) (c.def_ 15 (d := d15))
  d_law_loss := gd_of (st := top 38) (He.glo_ok X G (c.fact 16 (f := .fa (.glo "_law_loss")))) (c.def_ 16 (d := d16))
  d_law_chances_right := gd_of (st := top 39) (He.glo_ok X G (c.fact 17 (f := .fa (.glo "_law_chances_right")))) (c.def_ 17 (d := d17))
  d_law_powers_right := gd_of (st := top 40) (He.glo_ok X G (c.fact 18 (f := .fa (.glo "_law_powers_right")))) (c.def_ 18 (d := d18))
  dlaw := gd_of (st := top 41) (He.glo_ok X G (c.fact 19 (f := .fa (.glo "law")))) (c.def_ 19 (d := d19))
  mg0 := He.glo_ok X G (c.fact 20 (f := .fa (.glo "Scale")))
  mg1 := He.glo_ok X G (c.fact 21 (f := .fa (.glo "SumScale")))
  mg2 := He.glo_ok X G (c.fact 22 (f := .fa (.glo "ClassScale")))
  mg3 := He.glo_ok X G (c.fact 23 (f := .fa (.glo "OddsScale")))
  flen := He.free_ok X G (c.fact 24 (f := .fa (.free "len")))
  fisinstance := He.free_ok X G (c.fact 25 (f := .fa (.free "isinstance")))
  fint := He.free_ok X G (c.fact 26 (f := .fa (.free "int")))
  fbool := He.free_ok X G (c.fact 27 (f := .fa (.free "bool")))
  ftuple := He.free_ok X G (c.fact 28 (f := .fa (.free "tuple")))
  flist := He.free_ok X G (c.fact 29 (f := .fa (.free "list")))
  frange := He.free_ok X G (c.fact 30 (f := .fa (.free "range")))
  fall := He.free_ok X G (c.fact 31 (f := .fa (.free "all")))
  fsum := He.free_ok X G (c.fact 32 (f := .fa (.free "sum")))
  fmax := He.free_ok X G (c.fact 33 (f := .fa (.free "max")))
  fmin := He.free_ok X G (c.fact 34 (f := .fa (.free "min")))
  fabs := He.free_ok X G (c.fact 35 (f := .fa (.free "abs")))
  fenumerate := He.free_ok X G (c.fact 36 (f := .fa (.free "enumerate")))
  fzip := He.free_ok X G (c.fact 37 (f := .fa (.free "zip")))
  iMAX_SIZE := He.int_ok X G (c.fact 38 (f := .fa (.int "MAX_SIZE" 4)))
  iMAX_ODDS := He.int_ok X G (c.fact 39 (f := .fa (.int "MAX_ODDS" 1000000)))
  iMOST_WEIGHTS := He.int_ok X G (c.fact 40 (f := .fa (.int "MOST_WEIGHTS" 200)))
  sSUMS := He.str_ok X G (c.fact 41 (f := .fa (.str "SUMS" "sums")))
  sCLASSES := He.str_ok X G (c.fact 42 (f := .fa (.str "CLASSES" "classes")))
  sODDS := He.str_ok X G (c.fact 43 (f := .fa (.str "ODDS" "odds")))
  c1 := {
    cl := He.cls_ok (c.fact 44 (f := .fa (.cls "SumScale")))
    n0 := He.noat_ok (c.fact 45 (f := .fa (.noat "SumScale" "own_word")))
    n1 := He.noat_ok (c.fact 46 (f := .fa (.noat "SumScale" "own_size")))
    n2 := He.noat_ok (c.fact 47 (f := .fa (.noat "SumScale" "own_zero")))
    n3 := He.noat_ok (c.fact 48 (f := .fa (.noat "SumScale" "own_one")))
    mkr := mk_inh (st := inClass (top 20) 0) (c.fact 49 (f := .fa (.mkr "SumScale"))) (c.fact 50 (f := .same "SumScale" "__init__" "Scale")) (c.def_ 20 (d := d20))
    has_form := md_own (st := inClass (top 21) 0) (c.fact 51 (f := .fa (.meth "SumScale" "has_form"))) (c.def_ 37 (d := d37))
    has_weight := md_own (st := inClass (top 21) 1) (c.fact 52 (f := .fa (.meth "SumScale" "has_weight"))) (c.def_ 38 (d := d38))
    added := md_own (st := inClass (top 21) 2) (c.fact 53 (f := .fa (.meth "SumScale" "added"))) (c.def_ 39 (d := d39))
    opposite := md_own (st := inClass (top 21) 3) (c.fact 54 (f := .fa (.meth "SumScale" "opposite"))) (c.def_ 40 (d := d40))
    total_in := md_own (st := inClass (top 21) 4) (c.fact 55 (f := .fa (.meth "SumScale" "total_in"))) (c.def_ 41 (d := d41))
    before := md_own (st := inClass (top 21) 5) (c.fact 56 (f := .fa (.meth "SumScale" "before"))) (c.def_ 42 (d := d42))
    is_weight := md_inh (st := inClass (top 20) 8) (c.fact 57 (f := .fa (.meth "SumScale" "is_weight"))) (c.fact 58 (f := .same "SumScale" "is_weight" "Scale")) (c.def_ 21 (d := d21))
    xcontainsx := md_inh (st := inClass (top 20) 10) (c.fact 59 (f := .fa (.meth "SumScale" "__contains__"))) (c.fact 60 (f := .same "SumScale" "__contains__" "Scale")) (c.def_ 22 (d := d22))
    require_amount := md_inh (st := inClass (top 20) 11) (c.fact 61 (f := .fa (.meth "SumScale" "require_amount"))) (c.fact 62 (f := .same "SumScale" "require_amount" "Scale")) (c.def_ 23 (d := d23))
    require_amounts := md_inh (st := inClass (top 20) 12) (c.fact 63 (f := .fa (.meth "SumScale" "require_amounts"))) (c.fact 64 (f := .same "SumScale" "require_amounts" "Scale")) (c.def_ 24 (d := d24))
    plus := md_inh (st := inClass (top 20) 13) (c.fact 65 (f := .fa (.meth "SumScale" "plus"))) (c.fact 66 (f := .same "SumScale" "plus" "Scale")) (c.def_ 25 (d := d25))
    plus_all := md_inh (st := inClass (top 20) 14) (c.fact 67 (f := .fa (.meth "SumScale" "plus_all"))) (c.fact 68 (f := .same "SumScale" "plus_all" "Scale")) (c.def_ 26 (d := d26))
    minus := md_inh (st := inClass (top 20) 15) (c.fact 69 (f := .fa (.meth "SumScale" "minus"))) (c.fact 70 (f := .same "SumScale" "minus" "Scale")) (c.def_ 27 (d := d27))
    negative := md_inh (st := inClass (top 20) 16) (c.fact 71 (f := .fa (.meth "SumScale" "negative"))) (c.fact 72 (f := .same "SumScale" "negative" "Scale")) (c.def_ 28 (d := d28))
    twice := md_inh (st := inClass (top 20) 17) (c.fact 73 (f := .fa (.meth "SumScale" "twice"))) (c.fact 74 (f := .same "SumScale" "twice" "Scale")) (c.def_ 29 (d := d29))
    is_less := md_inh (st := inClass (top 20) 18) (c.fact 75 (f := .fa (.meth "SumScale" "is_less"))) (c.fact 76 (f := .same "SumScale" "is_less" "Scale")) (c.def_ 30 (d := d30))
    sign := md_inh (st := inClass (top 20) 19) (c.fact 77 (f := .fa (.meth "SumScale" "sign"))) (c.fact 78 (f := .same "SumScale" "sign" "Scale")) (c.def_ 31 (d := d31))
    greatest := md_inh (st := inClass (top 20) 20) (c.fact 79 (f := .fa (.meth "SumScale" "greatest"))) (c.fact 80 (f := .same "SumScale" "greatest" "Scale")) (c.def_ 32 (d := d32))
    order_of := md_inh (st := inClass (top 20) 22) (c.fact 81 (f := .fa (.meth "SumScale" "order_of"))) (c.fact 82 (f := .same "SumScale" "order_of" "Scale")) (c.def_ 33 (d := d33))
    ranked := md_inh (st := inClass (top 20) 23) (c.fact 83 (f := .fa (.meth "SumScale" "ranked"))) (c.fact 84 (f := .same "SumScale" "ranked" "Scale")) (c.def_ 34 (d := d34))
    merged := md_inh (st := inClass (top 20) 24) (c.fact 85 (f := .fa (.meth "SumScale" "merged"))) (c.fact 86 (f := .same "SumScale" "merged" "Scale")) (c.def_ 35 (d := d35))
    xeqx := md_inh (st := inClass (top 20) 25) (c.fact 87 (f := .fa (.meth "SumScale" "__eq__"))) (c.fact 88 (f := .same "SumScale" "__eq__" "Scale")) (c.def_ 36 (d := d36))
    zero := prop_inh (st := inClass (top 20) 6) (c.fact 89 (f := .prop "SumScale" "zero")) (c.fact 90 (f := .same "SumScale" "zero" "Scale")) (c.def_ 58 (d := d58))
    ne := He.eqO_ok (c.fact 91 (f := .bltn "SumScale" "__ne__" "object.__ne__"))
    kit := of_decide_eq_true (c.fact 92 (f := .kit "SumScale" "Scale"))
    ca := He.eqO_ok (He.ba (c.fact 93 (f := .kcls "SumScale"))).1
    cn := He.eqO_ok (He.ba (He.ba (c.fact 93 (f := .kcls "SumScale"))).2).1
    ct := of_decide_eq_true (He.ba (He.ba (He.ba (c.fact 93 (f := .kcls "SumScale"))).2).2).1
    cm := of_decide_eq_true (He.ba (He.ba (He.ba (c.fact 93 (f := .kcls "SumScale"))).2).2).2 }
  c2 := {
    cl := He.cls_ok (c.fact 94 (f := .fa (.cls "ClassScale")))
    n0 := He.noat_ok (c.fact 95 (f := .fa (.noat "ClassScale" "own_word")))
    n1 := He.noat_ok (c.fact 96 (f := .fa (.noat "ClassScale" "own_size")))
    n2 := He.noat_ok (c.fact 97 (f := .fa (.noat "ClassScale" "own_zero")))
    n3 := He.noat_ok (c.fact 98 (f := .fa (.noat "ClassScale" "own_one")))
    mkr := mk_inh (st := inClass (top 20) 0) (c.fact 99 (f := .fa (.mkr "ClassScale"))) (c.fact 100 (f := .same "ClassScale" "__init__" "Scale")) (c.def_ 20 (d := d20))
    has_form := md_own (st := inClass (top 22) 0) (c.fact 101 (f := .fa (.meth "ClassScale" "has_form"))) (c.def_ 43 (d := d43))
    has_weight := md_own (st := inClass (top 22) 1) (c.fact 102 (f := .fa (.meth "ClassScale" "has_weight"))) (c.def_ 44 (d := d44))
    added := md_own (st := inClass (top 22) 2) (c.fact 103 (f := .fa (.meth "ClassScale" "added"))) (c.def_ 45 (d := d45))
    opposite := md_own (st := inClass (top 22) 3) (c.fact 104 (f := .fa (.meth "ClassScale" "opposite"))) (c.def_ 46 (d := d46))
    total_in := md_own (st := inClass (top 22) 4) (c.fact 105 (f := .fa (.meth "ClassScale" "total_in"))) (c.def_ 47 (d := d47))
    before := md_own (st := inClass (top 22) 5) (c.fact 106 (f := .fa (.meth "ClassScale" "before"))) (c.def_ 48 (d := d48))
    is_weight := md_inh (st := inClass (top 20) 8) (c.fact 107 (f := .fa (.meth "ClassScale" "is_weight"))) (c.fact 108 (f := .same "ClassScale" "is_weight" "Scale")) (c.def_ 21 (d := d21))
    xcontainsx := md_inh (st := inClass (top 20) 10) (c.fact 109 (f := .fa (.meth "ClassScale" "__contains__"))) (c.fact 110 (f := .same "ClassScale" "__contains__" "Scale")) (c.def_ 22 (d := d22))
    require_amount := md_inh (st := inClass (top 20) 11) (c.fact 111 (f := .fa (.meth "ClassScale" "require_amount"))) (c.fact 112 (f := .same "ClassScale" "require_amount" "Scale")) (c.def_ 23 (d := d23))
    require_amounts := md_inh (st := inClass (top 20) 12) (c.fact 113 (f := .fa (.meth "ClassScale" "require_amounts"))) (c.fact 114 (f := .same "ClassScale" "require_amounts" "Scale")) (c.def_ 24 (d := d24))
    plus := md_inh (st := inClass (top 20) 13) (c.fact 115 (f := .fa (.meth "ClassScale" "plus"))) (c.fact 116 (f := .same "ClassScale" "plus" "Scale")) (c.def_ 25 (d := d25))
    plus_all := md_inh (st := inClass (top 20) 14) (c.fact 117 (f := .fa (.meth "ClassScale" "plus_all"))) (c.fact 118 (f := .same "ClassScale" "plus_all" "Scale")) (c.def_ 26 (d := d26))
    minus := md_inh (st := inClass (top 20) 15) (c.fact 119 (f := .fa (.meth "ClassScale" "minus"))) (c.fact 120 (f := .same "ClassScale" "minus" "Scale")) (c.def_ 27 (d := d27))
    negative := md_inh (st := inClass (top 20) 16) (c.fact 121 (f := .fa (.meth "ClassScale" "negative"))) (c.fact 122 (f := .same "ClassScale" "negative" "Scale")) (c.def_ 28 (d := d28))
    twice := md_inh (st := inClass (top 20) 17) (c.fact 123 (f := .fa (.meth "ClassScale" "twice"))) (c.fact 124 (f := .same "ClassScale" "twice" "Scale")) (c.def_ 29 (d := d29))
    is_less := md_inh (st := inClass (top 20) 18) (c.fact 125 (f := .fa (.meth "ClassScale" "is_less"))) (c.fact 126 (f := .same "ClassScale" "is_less" "Scale")) (c.def_ 30 (d := d30))
    sign := md_inh (st := inClass (top 20) 19) (c.fact 127 (f := .fa (.meth "ClassScale" "sign"))) (c.fact 128 (f := .same "ClassScale" "sign" "Scale")) (c.def_ 31 (d := d31))
    greatest := md_inh (st := inClass (top 20) 20) (c.fact 129 (f := .fa (.meth "ClassScale" "greatest"))) (c.fact 130 (f := .same "ClassScale" "greatest" "Scale")) (c.def_ 32 (d := d32))
    order_of := md_inh (st := inClass (top 20) 22) (c.fact 131 (f := .fa (.meth "ClassScale" "order_of"))) (c.fact 132 (f := .same "ClassScale" "order_of" "Scale")) (c.def_ 33 (d := d33))
    ranked := md_inh (st := inClass (top 20) 23) (c.fact 133 (f := .fa (.meth "ClassScale" "ranked"))) (c.fact 134 (f := .same "ClassScale" "ranked" "Scale")) (c.def_ 34 (d := d34))
    merged := md_inh (st := inClass (top 20) 24) (c.fact 135 (f := .fa (.meth "ClassScale" "merged"))) (c.fact 136 (f := .same "ClassScale" "merged" "Scale")) (c.def_ 35 (d := d35))
    xeqx := md_inh (st := inClass (top 20) 25) (c.fact 137 (f := .fa (.meth "ClassScale" "__eq__"))) (c.fact 138 (f := .same "ClassScale" "__eq__" "Scale")) (c.def_ 36 (d := d36))
    zero := prop_inh (st := inClass (top 20) 6) (c.fact 139 (f := .prop "ClassScale" "zero")) (c.fact 140 (f := .same "ClassScale" "zero" "Scale")) (c.def_ 58 (d := d58))
    ne := He.eqO_ok (c.fact 141 (f := .bltn "ClassScale" "__ne__" "object.__ne__"))
    kit := of_decide_eq_true (c.fact 142 (f := .kit "ClassScale" "Scale"))
    ca := He.eqO_ok (He.ba (c.fact 143 (f := .kcls "ClassScale"))).1
    cn := He.eqO_ok (He.ba (He.ba (c.fact 143 (f := .kcls "ClassScale"))).2).1
    ct := of_decide_eq_true (He.ba (He.ba (He.ba (c.fact 143 (f := .kcls "ClassScale"))).2).2).1
    cm := of_decide_eq_true (He.ba (He.ba (He.ba (c.fact 143 (f := .kcls "ClassScale"))).2).2).2 }
  c3 := {
    cl := He.cls_ok (c.fact 144 (f := .fa (.cls "OddsScale")))
    n0 := He.noat_ok (c.fact 145 (f := .fa (.noat "OddsScale" "own_word")))
    n1 := He.noat_ok (c.fact 146 (f := .fa (.noat "OddsScale" "own_size")))
    n2 := He.noat_ok (c.fact 147 (f := .fa (.noat "OddsScale" "own_zero")))
    n3 := He.noat_ok (c.fact 148 (f := .fa (.noat "OddsScale" "own_one")))
    mkr := mk_inh (st := inClass (top 20) 0) (c.fact 149 (f := .fa (.mkr "OddsScale"))) (c.fact 150 (f := .same "OddsScale" "__init__" "Scale")) (c.def_ 20 (d := d20))
    has_form := md_own (st := inClass (top 23) 0) (c.fact 151 (f := .fa (.meth "OddsScale" "has_form"))) (c.def_ 49 (d := d49))
    has_weight := md_own (st := inClass (top 23) 1) (c.fact 152 (f := .fa (.meth "OddsScale" "has_weight"))) (c.def_ 50 (d := d50))
    added := md_own (st := inClass (top 23) 2) (c.fact 153 (f := .fa (.meth "OddsScale" "added"))) (c.def_ 51 (d := d51))
    opposite := md_own (st := inClass (top 23) 3) (c.fact 154 (f := .fa (.meth "OddsScale" "opposite"))) (c.def_ 52 (d := d52))
    total_in := md_own (st := inClass (top 23) 4) (c.fact 155 (f := .fa (.meth "OddsScale" "total_in"))) (c.def_ 53 (d := d53))
    before := md_own (st := inClass (top 23) 5) (c.fact 156 (f := .fa (.meth "OddsScale" "before"))) (c.def_ 54 (d := d54))
    is_weight := md_inh (st := inClass (top 20) 8) (c.fact 157 (f := .fa (.meth "OddsScale" "is_weight"))) (c.fact 158 (f := .same "OddsScale" "is_weight" "Scale")) (c.def_ 21 (d := d21))
    xcontainsx := md_inh (st := inClass (top 20) 10) (c.fact 159 (f := .fa (.meth "OddsScale" "__contains__"))) (c.fact 160 (f := .same "OddsScale" "__contains__" "Scale")) (c.def_ 22 (d := d22))
    require_amount := md_inh (st := inClass (top 20) 11) (c.fact 161 (f := .fa (.meth "OddsScale" "require_amount"))) (c.fact 162 (f := .same "OddsScale" "require_amount" "Scale")) (c.def_ 23 (d := d23))
    require_amounts := md_inh (st := inClass (top 20) 12) (c.fact 163 (f := .fa (.meth "OddsScale" "require_amounts"))) (c.fact 164 (f := .same "OddsScale" "require_amounts" "Scale")) (c.def_ 24 (d := d24))
    plus := md_inh (st := inClass (top 20) 13) (c.fact 165 (f := .fa (.meth "OddsScale" "plus"))) (c.fact 166 (f := .same "OddsScale" "plus" "Scale")) (c.def_ 25 (d := d25))
    plus_all := md_inh (st := inClass (top 20) 14) (c.fact 167 (f := .fa (.meth "OddsScale" "plus_all"))) (c.fact 168 (f := .same "OddsScale" "plus_all" "Scale")) (c.def_ 26 (d := d26))
    minus := md_inh (st := inClass (top 20) 15) (c.fact 169 (f := .fa (.meth "OddsScale" "minus"))) (c.fact 170 (f := .same "OddsScale" "minus" "Scale")) (c.def_ 27 (d := d27))
    negative := md_inh (st := inClass (top 20) 16) (c.fact 171 (f := .fa (.meth "OddsScale" "negative"))) (c.fact 172 (f := .same "OddsScale" "negative" "Scale")) (c.def_ 28 (d := d28))
    twice := md_inh (st := inClass (top 20) 17) (c.fact 173 (f := .fa (.meth "OddsScale" "twice"))) (c.fact 174 (f := .same "OddsScale" "twice" "Scale")) (c.def_ 29 (d := d29))
    is_less := md_inh (st := inClass (top 20) 18) (c.fact 175 (f := .fa (.meth "OddsScale" "is_less"))) (c.fact 176 (f := .same "OddsScale" "is_less" "Scale")) (c.def_ 30 (d := d30))
    sign := md_inh (st := inClass (top 20) 19) (c.fact 177 (f := .fa (.meth "OddsScale" "sign"))) (c.fact 178 (f := .same "OddsScale" "sign" "Scale")) (c.def_ 31 (d := d31))
    greatest := md_inh (st := inClass (top 20) 20) (c.fact 179 (f := .fa (.meth "OddsScale" "greatest"))) (c.fact 180 (f := .same "OddsScale" "greatest" "Scale")) (c.def_ 32 (d := d32))
    order_of := md_inh (st := inClass (top 20) 22) (c.fact 181 (f := .fa (.meth "OddsScale" "order_of"))) (c.fact 182 (f := .same "OddsScale" "order_of" "Scale")) (c.def_ 33 (d := d33))
    ranked := md_inh (st := inClass (top 20) 23) (c.fact 183 (f := .fa (.meth "OddsScale" "ranked"))) (c.fact 184 (f := .same "OddsScale" "ranked" "Scale")) (c.def_ 34 (d := d34))
    merged := md_inh (st := inClass (top 20) 24) (c.fact 185 (f := .fa (.meth "OddsScale" "merged"))) (c.fact 186 (f := .same "OddsScale" "merged" "Scale")) (c.def_ 35 (d := d35))
    xeqx := md_inh (st := inClass (top 20) 25) (c.fact 187 (f := .fa (.meth "OddsScale" "__eq__"))) (c.fact 188 (f := .same "OddsScale" "__eq__" "Scale")) (c.def_ 36 (d := d36))
    zero := prop_inh (st := inClass (top 20) 6) (c.fact 189 (f := .prop "OddsScale" "zero")) (c.fact 190 (f := .same "OddsScale" "zero" "Scale")) (c.def_ 58 (d := d58))
    ne := He.eqO_ok (c.fact 191 (f := .bltn "OddsScale" "__ne__" "object.__ne__"))
    kit := of_decide_eq_true (c.fact 192 (f := .kit "OddsScale" "Scale"))
    ca := He.eqO_ok (He.ba (c.fact 193 (f := .kcls "OddsScale"))).1
    cn := He.eqO_ok (He.ba (He.ba (c.fact 193 (f := .kcls "OddsScale"))).2).1
    ct := of_decide_eq_true (He.ba (He.ba (He.ba (c.fact 193 (f := .kcls "OddsScale"))).2).2).1
    cm := of_decide_eq_true (He.ba (He.ba (He.ba (c.fact 193 (f := .kcls "OddsScale"))).2).2).2 }
  rd := read_of (c.fact 194 (f := .read "Scale"))
  st_sums := stat_of (st := inClass (top 20) 1) (c.fact 195 (f := .stat "Scale" "sums")) (c.def_ 55 (d := d55))
  st_classes := stat_of (st := inClass (top 20) 2) (c.fact 196 (f := .stat "Scale" "classes")) (c.def_ 56 (d := d56))
  st_odds := stat_of (st := inClass (top 20) 3) (c.fact 197 (f := .stat "Scale" "odds")) (c.def_ 57 (d := d57))
end
/-! the run -/
abbrev R : PySem.W.OpenRow := PySem.W.OpenLaw.row PySem.Challenge.rw_mostkept_k10_whole_one_ordered_group
abbrev hk : PySem.W.Hook := hookM 6
def ob (s : PySem.W.SharedT) : He.AlD := obsMG 6 (HandSHeadRun.getT s)
theorem ob_eq (s : PySem.W.SharedT) : ob s = hk.obs s.abs := obsMG_eq (HandSHeadRun.getT_eq s)
def looseA : List Str := ["_wall", "__name__", "TableError", "InvalidKeep", "InvalidOperation", "InvalidNumber", "is_integer", "is_index", "MAX_SIZE", "MAX_ODDS", "MORE_FIGURES", "MOST_WEIGHTS", "SUMS", "CLASSES", "ODDS", "common_divisor", "reduced", "is_fraction", "Scale", "SumScale"]
def looseB : List Str := ["ClassScale", "OddsScale", "are_indices", "chance_of_rows", "_law_dice", "_law_pull", "_law_pick", "_law_scale", "_law_lowest", "_law_weight", "_law_made", "_law_amount", "_law_threes_right", "_law_loads_right", "_law_sets", "_law_loss", "_law_chances_right", "_law_powers_right"]
def loose : List Str := looseA ++ looseB
theorem run (w : World) : HandSHeadRun.RunEq R (PySem.W.view R.prog [41]) hk ob 6000 loose w := by
  intro os
  kernel_rfl
end Mo

set_option Elab.async false
set_option linter.all false
set_option maxRecDepth 100000
set_option maxHeartbeats 4000000
/-! Rules of our own beside the hand layer: calls by positional promises, static methods, own __contains__, != by an own __eq__, tuple[::-1], tuple * 0 | 1, list.count of flat items, powers, enumerate over a tuple. -/
namespace Mo
open PySem PySem.Spec PyProof.Rows L2
/-! ### calls by positional promises -/
section
variable (P : Program) (w : World) (K : PySem.W.Frag) (mg : Str → Option Value) (base : Heap)
/-- the module's def x keeps the promise sp -/
def Gf (k : Nat) (x : Str) (sp : Sp) : Prop := ∃ f, mg x = some (.ref f) ∧ PySem.W.keepIn K (.ref f) = true ∧ FnR P w K mg base CX0 k f sp
/-- the method m of the class at C -/
def Mf (k : Nat) (C : Addr) (m : Str) (sp : Sp) : Prop := ∃ f, Meth K C m f ∧ FnR P w K mg base CX0 k f sp
/-- the static method m of the class at C -/
def Sf (k : Nat) (C : Addr) (m : Str) (sp : Sp) : Prop := ∃ p f, PySem.W.findCls K (.ref C) (.type "type") m = some (.get (.builtin "staticmethod.__get__") (.ref p) .none (.ref C)) ∧
  (∃ rest, PySem.W.recIn K p "staticmethod" = some (.ref f :: rest)) ∧ PySem.W.keepIn K (.ref f) = true ∧ FnR P w K mg base CX0 k f sp
/-- new instances of the class that the module's name x holds -/
def Kf (k : Nat) (x : Str) (C : Addr) (sp : Sp) : Prop := mg x = some (.ref C) ∧ ∃ f, Mk K C f ∧ FnR P w K mg base CX0 k f sp
end
def tG (sp : Sp) (t : TA) : TE := fun σ H Q => t σ H fun vs H1 => sp vs H1 Q E0
def tM (C : Addr) (m : Str) (sp : Sp) (ta : TE) (t : TA) : TE := fun σ H Q => ta σ H fun x H1 => ∃ a dx fs, x = .ref a ∧ H1 a = some (.ins C dx fs) ∧ fs.lookup m = none ∧ t σ H1 fun vs H2 => sp (x :: vs) H2 Q E0
def tS (C : Addr) (sp : Sp) (ta : TE) (t : TA) : TE := fun σ H Q => ta σ H fun x H1 => x = .ref C ∧ t σ H1 fun vs H2 => sp vs H2 Q E0
section
variable {X : Cx} {j k : Nat} {C : Addr} {x m : Str} {sp : Sp} {o e : Expr} {es : List Expr} {p pos apos : Pos} {ta : TE} {t : TA} {pl : Sem Bool}
theorem pe_g (G : Gf X.prog X.w X.K X.mg X.base k x sp) (hr : Room j X.A) (hg : Gl X x) (ha : PA X (e :: es) t) (hk : k ≤ j := by decide) (hdb : (x == ("__debug__" : Str)) = false := by decide)
    (he : starEach (e :: es) X.env = (false, eval e X.env) :: starEach es X.env := by rfl) (hpl : (backTo pos (starEach es X.env)).any (·.1) = false := by rfl) : PE X (.Call (.Name x p) (e :: es) [] pos) (tG sp t) := by
  obtain ⟨f, hm, kp, F⟩ := G
  refine ⟨fun pins s σ H Q I h => ?_⟩
  refine wpAny_Call_Name_kw (ld_glob I hg hm ?_ hdb)
  refine PySem.W.callWith_K (h₀ := X.base) I.ok.mod.kin kp (thn (ha.run pos pins s σ H _ I h) fun us s1 ⟨vs, H1, I1, r, q⟩ => ⟨I1.kIn, ?_⟩) he hpl
  exact wpAny_call (run_fnR F (hr.mono hk) pass0 I1 r q)
theorem pe_m (M : Mf X.prog X.w X.K X.mg X.base k C m sp) (c : Cls X.K C) (hr : Room j X.A) (he : PE X o ta) (ha : PA X (e :: es) t) (hk : k ≤ j := by decide)
    (hst : starEach (e :: es) X.env = (false, eval e X.env) :: starEach es X.env := by rfl) (hpl : (backTo pos (starEach es X.env)).any (·.1) = false := by rfl)
    (ht : eval (.Call (.Attribute o m apos) (e :: es) [] pos) X.env = (do
      let ov ← eval o X.env
      standAt apos.atName
      let (f, first) ← holding [ov] (getMethod ov m pl)
      callWith pos f first (backTo pos (starEach (e :: es) X.env)) (backToKw pos (keywordEach [] X.env))) := by rfl) :
    PE X (.Call (.Attribute o m apos) (e :: es) [] pos) (tM C m sp ta t) := by
  obtain ⟨f, hm, F⟩ := M
  exact pe_methR (pl := pl) he c hm F (hr.mono hk) pass0 ha hst hpl ht
theorem pe_k (N : Kf X.prog X.w X.K X.mg X.base k x C sp) (hr : Room j X.A) (hg : Gl X x) (ha : PA X (e :: es) t) (hk : k + 1 ≤ j := by decide) (hdb : (x == ("__debug__" : Str)) = false := by decide)
    (he : starEach (e :: es) X.env = (false, eval e X.env) :: starEach es X.env := by rfl) (hpl : (backTo pos (starEach es X.env)).any (·.1) = false := by rfl) : PE X (.Call (.Name x p) (e :: es) [] pos) (StX.tMakeR C sp E0 t) := by
  obtain ⟨hm, f, M, F⟩ := N
  exact StX.pe_makeR M F (hr.mono hk) hg hm pass0 ha hdb he hpl
theorem getmethsm_ok {pins : List (Addr × Obj)} {σ : L2.St} {H : Hp} {s : Shared} {Q : Value × List Value → Shared → Prop} {E : Value → Shared → Prop} {A : Around} {q f : Addr} {rest : List Value} (I : Inv X pins σ H s) (r : ClX.CRead X.K C (.type "type"))
    (hc : PySem.W.findCls X.K (.ref C) (.type "type") m = some (.get (.builtin "staticmethod.__get__") (.ref q) .none (.ref C))) (hp : PySem.W.recIn X.K q "staticmethod" = some (.ref f :: rest)) (h : ∀ s', Inv X pins σ H s' → Q (.ref f, []) s') :
    wpAny (model X.prog X.w) A (getMethod (.ref C) m pl) Q E s :=
  PySem.W.method_cls I.kIn r.ga (PySem.W.cls_bind I.kIn r.rd hc (wpAny_call (PySem.W.sm_get (s := { s with toks := s.toks + 1 }) I.kIn hp (PySem.W.handed_on rfl (h _ (I.tok _))))))
/-- C.m(e, ..), m a static method -/
theorem pe_s (S : Sf X.prog X.w X.K X.mg X.base k C m sp) (r : ClX.CRead X.K C (.type "type")) (hr : Room j X.A) (he : PE X o ta) (ha : PA X (e :: es) t) (hk : k ≤ j := by decide)
    (hst : starEach (e :: es) X.env = (false, eval e X.env) :: starEach es X.env := by rfl) (hpl : (backTo pos (starEach es X.env)).any (·.1) = false := by rfl)
    (ht : eval (.Call (.Attribute o m apos) (e :: es) [] pos) X.env = (do
      let ov ← eval o X.env
      standAt apos.atName
      let (f, first) ← holding [ov] (getMethod ov m pl)
      callWith pos f first (backTo pos (starEach (e :: es) X.env)) (backToKw pos (keywordEach [] X.env))) := by rfl) :
    PE X (.Call (.Attribute o m apos) (e :: es) [] pos) (tS C sp ta t) := by
  obtain ⟨q, f, hc, ⟨rest, hp⟩, kp, F⟩ := S
  refine ⟨fun pins s σ H Q I h => ?_⟩
  refine PySem.W.methodCall_KW (pl := pl) (thn (he.run pins s σ H _ I h) fun u s1 ⟨x, H1, I1, rx, ex, q1⟩ => ?_) ht
  subst ex
  obtain rfl : u = Value.ref C := rx
  refine getmethsm_ok I1 r hc hp fun s2 I2 => ?_
  refine PySem.W.callWith_K (first := []) (h₀ := X.base) I.ok.mod.kin kp (thn (ha.run pos pins s2 σ H1 _ I2 q1) fun us s3 ⟨vs, H2, I3, rv, q2⟩ => ⟨I3.kIn, ?_⟩) hst hpl
  exact wpAny_call (run_fnR (us := us) (vs := vs) F (hr.mono hk) pass0 I3 rv q2)
theorem pe_s0 (S : Sf X.prog X.w X.K X.mg X.base k C m sp) (r : ClX.CRead X.K C (.type "type")) (hr : Room j X.A) (he : PE X o ta) (hk : k ≤ j := by decide)
    (ht : eval (.Call (.Attribute o m apos) [] [] pos) X.env = (do
      let ov ← eval o X.env
      standAt apos.atName
      let (f, first) ← holding [ov] (getMethod ov m pl)
      callWith pos f first (backTo pos (starEach [] X.env)) (backToKw pos (keywordEach [] X.env))) := by rfl) :
    PE X (.Call (.Attribute o m apos) [] [] pos) (tS C sp ta tNil) := by
  obtain ⟨q, f, hc, ⟨rest, hp⟩, kp, F⟩ := S
  refine ⟨fun pins s σ H Q I h => ?_⟩
  refine PySem.W.methodCall_KW (pl := pl) (thn (he.run pins s σ H _ I h) fun u s1 ⟨x, H1, I1, rx, ex, q1⟩ => ?_) ht
  subst ex
  obtain rfl : u = Value.ref C := rx
  refine getmethsm_ok I1 r hc hp fun s2 I2 => ?_
  exact PySem.W.callWith_K0 (first := []) I2.kIn kp (wpAny_call (run_fnR (us := []) (vs := []) F (hr.mono hk) pass0 I2 .nil q1))
end
/-! ### own __contains__, != by an own __eq__ -/
def rNotInO (C : Addr) (sp : Sp) : R2 := fun x y H Q => ∃ a dx fs, y = .ref a ∧ H a = some (.ins C dx fs) ∧ sp [y, x] H (fun z H' => ∃ b, z = .bl b ∧ Q (.bl (!b)) H') E0
def rNeO (C : Addr) (sp : Sp) : R2 := fun x y H Q => ∃ a dx fs b dy gs, x = .ref a ∧ y = .ref b ∧ H a = some (.ins C dx fs) ∧ H b = some (.ins C dy gs) ∧ sp [x, y] H (fun z H' => ∃ c, z = .bl c ∧ Q (.bl (!c)) H') E0
section
variable {X : Cx} {j k : Nat} {C : Addr} {sp : Sp}
theorem op_notInO (M : Mf X.prog X.w X.K X.mg X.base k C "__contains__" sp) (hr : Room j X.A) (hk : k ≤ j := by decide) : OpR X (compareOp .NotIn) (rNotInO C sp) := by
  intro pins s σ H x y v u Q I rx ry h
  obtain ⟨f, hm, F⟩ := M
  obtain ⟨a, dx, fs, rfl, ha, q⟩ := h
  cases (show u = Value.ref a from ry)
  obtain ⟨mA, O, _⟩ := ins_get I.hok ha
  obtain ⟨od, J, _⟩ := O.look
  obtain ⟨m, hF⟩ := I.fr
  refine PySem.W.notIn_K hF I.ok.mod.kin J hm.at_ hm.fn ?_
  refine wpAny_mono (wpAny_call (run_fnR (us := [.ref a, v]) (vs := [.ref a, x]) F (hr.mono hk) pass0 I (.cons rfl (.cons rx .nil)) q)) (fun r s' z => ?_) fun _ _ x => x
  obtain ⟨z', H', I', rz, b, rfl, qz⟩ := z
  cases (show r = Value.bool b from rz)
  exact wpAny_truthy_bool ⟨.bl (!b), H', I', rfl, qz⟩
open PySem.W Builtin in
theorem ne_special {prog : Program} {w : World} {A : Around} {E : Value → Shared → Prop} {s : Shared} {K : Frag} {x C f : Addr} {ox : Obj} {od : Option Obj} {b : Value} {Q : Option Value → Shared → Prop} (X : K.In s.heap) (I : InstAt s.heap x ox C od)
    (hn : findIn K (.ref C) "__ne__" = some (some (.builtin "object.__ne__"))) (hm : mroIn K C (.type "object") = some true) (he : findIn K (.ref C) "__eq__" = some (some (.ref f))) (hf : isFn K (.ref f) = true) (hu : A.in1.units < cLine)
    (h : wpAny (model prog w) A.in1 (call (.ref f) [.ref x, b]) (fun v s' => ∃ c, v = .bool c ∧ Q (some (.bool (!c))) s') E s) : wpAny (model prog w) A (callSpecialIfBound? (.ref x) "__ne__" [b]) Q E s := by
  simp only [callSpecialIfBound?, bindSpecialIfBound?]
  refine wpAny_holding (wpAny_bind (wpAny_bind (wpAny_bind (I.type.here ((looks_findIn X hn).here ?_)))))
  simp only [PySem.F.cmp_object.ne.bind]
  refine wpAny_bind (wpAny_askSetting (wpAny_ite ?_))
  have hcall : wpAny (model prog w) A (call (.builtin "object.__ne__") [.ref x, b]) (fun v => Q (some v)) E s := by
    refine wpAny_call (codeAny_call_builtin PySem.F.cmp_object.ne.plain PySem.F.cmpEntry_ne (check_slot (i := "object.__ne__") (owner := "object") (n := "__ne__") (by decide +kernel) (by decide +kernel) (I.type.andThen (looks_mroIn X hm)) (PySem.F.cmpArgs_ne _ _) ?_))
    unfold Builtin.«object.__ne__»
    refine wpAny_bind (m := slotArgs "__ne__" 1 _) (wpAny_pure ?_)
    refine wpAny_bind (m := cRoomFor _ _) (wpAny_cRoomFor hu ?_)
    refine wpAny_bind (m := callSpecialIfBound? (.ref x) (Str.ofString "__eq__") _) (ifBound_K X I he hf (wpAny_mono h (fun r s' hq => ?_) fun _ _ y => y))
    obtain ⟨c, rfl, hq⟩ := hq
    refine wpAny_bind (m := truthy (.bool c)) (wpAny_truthy_bool ?_)
    exact wpAny_pure hq
  have fin : wpAny (model prog w) A (call (.builtin "object.__ne__") ([.ref x] ++ [b]) >>= fun v => pure (some v)) Q E s := wpAny_bind (wpAny_mono hcall (fun v s' h' => wpAny_pure h') fun _ _ h' => h')
  split
  · exact wpAny_bind (wpAny_pure (wpAny_pure fin))
  · exact wpAny_tryCatch (wpAny_bind (wpAny_pure (wpAny_pure fin)))
theorem op_neO (M : Mf X.prog X.w X.K X.mg X.base k C "__eq__" sp) (hn : PySem.W.findIn X.K (.ref C) "__ne__" = some (some (.builtin "object.__ne__"))) (hmr : PySem.W.mroIn X.K C (.type "object") = some true) (hr : Room (j + 1) X.A) (hk : k ≤ j := by decide) :
    OpR X (compareOp .NotEq) (rNeO C sp) := by
  intro pins s σ H x y v u Q I rx ry h
  obtain ⟨f, hm, F⟩ := M
  obtain ⟨a, dx, fs, b, dy, gs, rfl, rfl, ha, hb, q⟩ := h
  cases (show v = Value.ref a from rx)
  cases (show u = Value.ref b from ry)
  obtain ⟨mA, O, _⟩ := ins_get I.hok ha
  obtain ⟨od, J, _⟩ := O.look
  obtain ⟨mB, O', _⟩ := ins_get I.hok hb
  obtain ⟨od', J', _⟩ := O'.look
  have hr1 : Room k X.A.in1 := (Room.in1 hr).mono hk
  have one : wpAny (model X.prog X.w) X.A (tryCompare (.ref a) "__ne__" (.ref b)) (fun r s' => ∃ v, r = some v ∧ EP X pins σ Q v s') X.xe s := by
    unfold tryCompare
    refine wpAny_bind (ne_special I.kIn J hn hmr hm.at_ hm.fn hr1.units0 (wpAny_mono (wpAny_call (SlX.run_at (us := [.ref a, .ref b]) (ws := [.ref a, .ref b]) F hr1 I.env0.in1 pass0 I (.cons rfl (.cons rfl .nil)) q)) (fun r s' z => ?_) fun _ _ x => x))
    obtain ⟨z', H', I', rz, c, rfl, qz⟩ := z
    cases (show r = Value.bool c from rz)
    exact ⟨c, rfl, wpAny_pure ⟨_, rfl, .bl (!c), H', I', rfl, qz⟩⟩
  show wpAny _ _ (richCompare .NotEq (.ref a) (.ref b)) _ _ s
  unfold richCompare
  simp only [oneThing_ref]
  refine wpAny_holding (wpAny_bind (wpAny_cRoomFor hr.units0 ?_))
  refine wpAny_bind (J.type.here (wpAny_bind (J'.type.here ?_)))
  rw [show (Value.ref C != Value.ref C) = false from by simp]
  simp only [Bool.false_eq_true, if_false]
  refine wpAny_bind (wpAny_pure ?_)
  simp only [Bool.false_eq_true, if_false]
  refine wpAny_bind (wpAny_mono one (fun r s' z => ?_) fun _ _ e => e)
  obtain ⟨v, rfl, hq⟩ := z
  exact wpAny_pure hq
end
/-! ### list.count of flat items, powers -/
def rCntV (K : PySem.W.Frag) : V → List V → Hp → VK → Prop := fun x xs H Q => ∃ (p : Addr) (ys : List V) (y : V), x = .ref p ∧ xs = [y] ∧ SqL K H p ys ∧ flatV y = true ∧ ys.all flatV = true ∧ Q (.int ((ys.countP fun z => eqV z y : Nat) : Int)) H
def CPowW (i j : Int) : Prop := 0 ≤ j ∧ (Builtin.Int.intBits i : Int) * j ≤ 2 ^ 27
section
variable {X : Cx}
theorem countP_V {y : V} : ∀ {xs : List V} {us : List Value}, Vals xs us → xs.all flatV = true → us.countP (eqU y) = xs.countP fun z => eqV z y
  | _, _, .nil, _ => rfl
  | _, _, .cons (a := a) (l₁ := l1) ra r, h => by
    rw [List.all_cons, Bool.and_eq_true] at h
    rw [List.countP_cons, List.countP_cons, countP_V r h.2, eqU_of ra h.1]
theorem mt_countV : MtR X "list.count" (rCntV X.K) := by
  intro pins s σ H x xs v us Q I rx rxs h
  obtain ⟨p, ys, y, rfl, rfl, hs, fy, fys, q⟩ := h
  cases rx
  obtain ⟨u, rfl, ru⟩ := rxs.one
  obtain ⟨its, rv, ⟨⟨cls, dd, data, sl⟩, n, ho, hc, hdn, hd⟩, hlen⟩ := I.list hs
  simp only at hc hd
  subst hc hd
  refine call_meets PySem.F.slot_list_count ⟨_, ho, rfl⟩ PySem.F.entry_list_count (PySem.F.args_list_count_2 _ _)
    (SeqAt.list_countAt p its.toArray n dd sl u (eqU y)) ⟨ho, fun z hz => mem_eqAt ru fy rv fys z (by simpa using hz), ?_⟩
  have ec : its.toArray.toList.countP (eqU y) = ys.countP fun z => eqV z y := countP_V rv fys
  refine ⟨.int ((ys.countP fun z => eqV z y : Nat) : Int), H, I.tok _, ⟨s.toks, ?_⟩, q⟩
  show Value.int ((its.toArray.toList.countP (eqU y) : Nat) : Int) s.toks = Value.int ((ys.countP fun z => eqV z y : Nat) : Int) s.toks
  rw [ec]
theorem op_powW : OpR X (binaryOp .Pow) (rI CPowW fun i j => .int (i ^ j.toNat)) := opI fun _ _ _ _ _ _ _ hc q => pow_int hc.1 hc.2 q
end
/-! ### tuple * 0, tuple * 1 -/
section
theorem tuple_mul1 (l : Addr) (items : Array Value) (n : Nat) (dd : Option Addr) (sl : Array (Option Value)) (u : Tok) :
    Meets (Builtin.«tuple.__mul__» ⟨[.ref l, .int 1 u], []⟩) (fun _ R s => s.heap.get? l = some { cls := .type "tuple", dict := dd, data := .seq items n, slots := sl } ∧ R (.ok (.ret (Value.ref l))) s) :=
  .of_wp fun prog w A R s h => by
    obtain ⟨hp, g, d, tk, os⟩ := s
    obtain ⟨hl, h⟩ := h
    have f1 := AutoSeq1.idx_int
    have c1 : (items.isEmpty || (1 : Int) == 1) = true := by simp
    wp_walk using wpAny_loadPart' hl
    repeat (first
      | (refine wpAny_ite_true (decide_eq_true c1) ?_; wp_walk using wpAny_loadPart' hl)
      | (refine wpAny_ite_false (by decide) ?_; wp_walk using wpAny_loadPart' hl))
    exact ⟨_, rfl, h⟩
theorem tuple_mul0 (l : Addr) (items : Array Value) (n : Nat) (dd : Option Addr) (sl : Array (Option Value)) (u : Tok) (hne : items.isEmpty = false) :
    Meets (Builtin.«tuple.__mul__» ⟨[.ref l, .int 0 u], []⟩) (fun _ R s => s.heap.get? l = some { cls := .type "tuple", dict := dd, data := .seq items n, slots := sl } ∧
      R (.ok (.ret (Value.ref s.heap.objs.size))) { s with heap := s.heap.push { cls := Value.type "tuple", data := Data.seq #[] }, toks := s.toks }) :=
  .of_wp fun prog w A R s h => by
    obtain ⟨hp, g, d, tk, os⟩ := s
    obtain ⟨hl, h⟩ := h
    have f1 := AutoSeq1.idx_int
    have c1 : (items.isEmpty || (0 : Int) == 1) = false := by rw [hne]; rfl
    have c2 : (decide ((0 : Int) ≤ 0) || items.isEmpty) = true := rfl
    wp_walk using wpAny_loadPart' hl
    repeat (first
      | (refine wpAny_ite_false (decide_eq_false (by rw [c1]; exact Bool.false_ne_true)) ?_; wp_walk using wpAny_loadPart' hl)
      | (refine wpAny_ite_true (decide_eq_true c2) ?_; wp_walk using wpAny_loadPart' hl)
      | (refine wpAny_ite_false (by decide) ?_; wp_walk using wpAny_loadPart' hl))
    exact ⟨_, rfl, h⟩
end
def rRep01 (K : PySem.W.Frag) : R2 := fun x y H Q => ∃ l xs, x = .ref l ∧ SqT K H l xs ∧ xs ≠ [] ∧ ((y = .int 1 ∧ Q (.ref l) H) ∨ (y = .int 0 ∧ ∀ p, H p = none → Q (.ref p) (upd H p (.tup []))))
section
variable {X : Cx}
theorem op_rep01 : OpR X (binaryOp .Mult) (rRep01 X.K) := by
  intro pins s σ H x y v u Q I rx ry h
  obtain ⟨l, xs, rfl, hT, hne, h⟩ := h
  cases rx
  obtain ⟨its, r, ⟨⟨cls, dd, data, sl⟩, ho, hc, n, hd⟩, hs⟩ := I.tuple hT
  simp only at hc hd
  subst hc hd
  have hle : its.length = xs.length := r.length.symm
  have hi : its.toArray.isEmpty = false := by
    cases its with
    | nil => exact absurd (List.eq_nil_of_length_eq_zero hle.symm) hne
    | cons a b => rfl
  rcases h with ⟨rfl, q⟩ | ⟨rfl, q⟩
  · obtain ⟨t, rfl⟩ := ry
    exact wpAny_binaryOp_repeat_ref (T := "tuple") (U := "int") (by decide) ⟨_, ho, rfl⟩ (fun s' => typeIs_int s' 1 t) noFill_tuple_mul F.fills_int_mul F.slot_int_rmul repeat_tuple F.slot_int_index.lookup
      (call_meets F.slot_int_rmul (typeIs_int s 1 t) F.entry_int_rmul (F.args_int_rmul_2 _ _) (int_rmul_tuple 1 t l its.toArray n dd sl)
        ⟨ho, rfl, ⟨_, ho, rfl⟩, call_meets F.slot_tuple_mul ⟨_, ho, rfl⟩ F.entry_tuple_mul (F.args_tuple_mul_2 _ _) (tuple_mul1 l its.toArray n dd sl t) ⟨ho, ⟨.ref l, H, I, rfl, q⟩⟩⟩)
  · obtain ⟨t, rfl⟩ := ry
    refine wpAny_binaryOp_repeat_ref (T := "tuple") (U := "int") (by decide) ⟨_, ho, rfl⟩ (fun s' => typeIs_int s' 0 t) noFill_tuple_mul F.fills_int_mul F.slot_int_rmul repeat_tuple F.slot_int_index.lookup
      (call_meets F.slot_int_rmul (typeIs_int s 0 t) F.entry_int_rmul (F.args_int_rmul_2 _ _) (int_rmul_tuple 0 t l its.toArray n dd sl)
        ⟨ho, rfl, ⟨_, ho, rfl⟩, call_meets F.slot_tuple_mul ⟨_, ho, rfl⟩ F.entry_tuple_mul (F.args_tuple_mul_2 _ _) (tuple_mul0 l its.toArray n dd sl t hi) ⟨ho, ?_⟩⟩)
    refine ⟨.ref s.heap.objs.size, _, I.laid (t' := s.toks) (o := .tup []) (fun b ob q => Heap.get?_push_of_some _ q) (Nat.le_refl _) ?_, rfl, q _ (I.hok.fresh (Nat.le_refl _))⟩
    exact ⟨Nat.zero_le _, _, .nil, IsTup.new _ _⟩
end
end Mo

set_option Elab.async false
set_option linter.all false
set_option maxRecDepth 100000
set_option maxHeartbeats 4000000
namespace Mo
open PySem PySem.Spec PyProof.Rows L2
/-! ### t[::-1] of a tuple -/
section
variable {prog : Program} {w : World} {A : Around} {E : Value → Shared → Prop} {s : Shared}
theorem adjust_rev (n : Nat) : Builtin.Slice.sliceAdjust none none (-1) (n : Int) = ((n : Int) - 1, -1) := by
  have h1 : ((-1 : Int) < 0) := by omega
  unfold Builtin.Slice.sliceAdjust
  simp only [h1, if_true]
theorem places_rev (n : Nat) : Builtin.Slice.slicePlaces ((n : Int) - 1) (-1) (-1) = n := by
  unfold Builtin.Slice.slicePlaces
  have h1 : ¬ ((-1 : Int) > 0) := by omega
  simp only [h1, if_false, show (- -1 : Int) = 1 from rfl, Int.ediv_one]
  split <;> omega
theorem fm_congr {α β : Type} {f g : α → Option β} : ∀ {l : List α}, (∀ m ∈ l, f m = g m) → l.filterMap f = l.filterMap g
  | [], _ => rfl
  | a :: r, h => by
    rw [List.filterMap_cons, List.filterMap_cons, h a (List.mem_cons_self ..), fm_congr fun m hm => h m (List.mem_cons_of_mem _ hm)]
theorem sliceApplied_rev {sl : Addr} {vl vu vs : Value} {n : Nat} {Q : Int × Int × Nat → Shared → Prop} (hs : s.heap.IsSliceOf sl vl vu vs) (pl : IsPart vl none) (pu : IsPart vu none) (ps : IsPart vs (some (-1)))
    (h : Q ((n : Int) - 1, -1, n) s) : wpAny (model prog w) A (Builtin.Slice.sliceApplied (.ref sl) (pure (n : Int))) Q E s := by
  obtain ⟨os, hos, hcs, hds⟩ := id hs
  unfold Builtin.Slice.sliceApplied Builtin.Slice.sliceFields
  refine wpAny_bind (wpAny_bind (wpAny_field hos hds (x := vl) rfl (wpAny_bind (wpAny_field hos hds (x := vu) rfl (wpAny_bind (wpAny_field hos hds (x := vs) rfl (wpAny_pure ?_)))))))
  refine wpAny_bind (HT.slicePart_ ps ?_)
  show wpAny _ _ (if ((-1 : Int) == 0) = true then _ else _) _ _ s
  rw [if_neg (by decide)]
  refine wpAny_bind (HT.slicePart_ pl (wpAny_bind (HT.slicePart_ pu (wpAny_bind (wpAny_pure ?_)))))
  show wpAny _ _ (match Builtin.Slice.sliceAdjust none none (-1) (n : Int) with | (lo, hi) => pure (lo, (-1 : Int), Builtin.Slice.slicePlaces lo hi (-1))) _ _ s
  rw [adjust_rev n]
  show wpAny _ _ (pure ((n : Int) - 1, (-1 : Int), Builtin.Slice.slicePlaces ((n : Int) - 1) (-1) (-1))) _ _ s
  rw [places_rev]
  exact wpAny_pure h
theorem pick_rev (xs : Array Value) : ((List.range xs.size).filterMap fun (m : Nat) => xs[((xs.size : Int) - 1 + (m : Int) * (-1)).toNat]?).toArray = xs.toList.reverse.toArray := by
  have e : (List.range xs.size).filterMap (fun (m : Nat) => xs[((xs.size : Int) - 1 + (m : Int) * (-1)).toNat]?) = ((List.range xs.size).map fun k => xs.size - 1 - k).filterMap (xs[·]?) := by
    rw [List.filterMap_map]
    refine fm_congr fun m hm => ?_
    have hlt := List.mem_range.mp hm
    show xs[((xs.size : Int) - 1 + (m : Int) * (-1)).toNat]? = xs[xs.size - 1 - m]?
    have : ((xs.size : Int) - 1 + (m : Int) * (-1)).toNat = xs.size - 1 - m := by omega
    rw [this]
  rw [e, PySem.W.krv_range, List.filterMap_reverse, PySem.W.krv_all]
theorem getItem_tuple_rev {t sl : Addr} {items : Array Value} {vl vu vs : Value} {Q : Value → Shared → Prop} (ht : IsTup s.heap t items) (hs : s.heap.IsSliceOf sl vl vu vs) (pl : IsPart vl none) (pu : IsPart vu none) (ps : IsPart vs (some (-1)))
    (h : Q (.ref s.heap.objs.size) { s with heap := s.heap.push { cls := .type "tuple", data := .seq items.toList.reverse.toArray } })
    (hsz : items.size ≤ sizeLine) : wpAny (model prog w) A (getItem (.ref t) (.ref sl)) Q E s := by
  have htake : sizeOk (.seq items.toList.reverse.toArray) := by
    show items.toList.reverse.toArray.size ≤ sizeLine
    rw [List.size_toArray, List.length_reverse, Array.length_toList]
    exact hsz
  obtain ⟨os, hos, hcs, hds⟩ := id hs
  have hTs : s.TypeIs (.ref sl) "slice" := ⟨os, hos, hcs⟩
  unfold getItem
  try with_reducible refine wpAny_holding ?_
  first | refine wpAny_bind (wpAny_pure ?_) | skip
  refine wpAny_bind (wpAny_sequenceKey ht.typeIs (by decide) ?_)
  refine wpAny_bind (wpAny_callSpecial?_slot (name := Str.ofString "__getitem__") ht.typeIs PyProof.Rows.slot_tuple_getitem
    (wpAny_call_entry PyProof.Rows.slot_tuple_getitem ht.typeIs entry_tuple_getitem ?_ (args_tuple_getitem _ _)))
  show wpAny _ _ (Builtin.Tuple.tupleItemsOf (.ref t) >>= _) _ _ s
  refine wpAny_bind (tupleItemsOf_ ht ?_)
  refine wpAny_bind (wpAny_typeOf hTs ?_)
  rw [if_pos (by decide)]
  refine wpAny_bind (sliceApplied_rev hs pl pu ps ?_)
  have hno : ¬ (((items.size : Int) - 1 == 0 && (-1 : Int) == 1 && items.size == items.size) = true) := by
    intro q
    rw [Bool.and_eq_true, Bool.and_eq_true] at q
    have q1 : (-1 : Int) = 1 := eq_of_beq q.1.2
    omega
  show wpAny _ _ (if ((items.size : Int) - 1 == 0 && (-1 : Int) == 1 && items.size == items.size) = true then _ else _) _ _ s
  rw [if_neg hno, pick_rev]
  first
    | exact wpAny_bind (m := Builtin.Tuple.tupleExact _) (wpAny_newObj_type (wpAny_pure ⟨_, rfl, wpAny_pure h⟩) htake)
    | exact wpAny_bind (m := Builtin.Tuple.tupleExact _) (wpAny_newObj_type (wpAny_bind (wpAny_pure (wpAny_pure ⟨_, rfl, wpAny_pure h⟩))) htake)
    | exact wpAny_bind (wpAny_bind (m := Builtin.Tuple.tupleExact _) (wpAny_newObj_type (wpAny_pure (wpAny_pure ⟨_, rfl, wpAny_pure h⟩)) htake))
    | exact wpAny_bind (wpAny_bind (m := Builtin.Tuple.tupleExact _) (wpAny_newObj_type (wpAny_pure ⟨_, rfl, wpAny_pure h⟩) htake))
end
def tRevT (K : PySem.W.Frag) (te : TE) : TE := fun σ H Q => te σ H fun x H1 => ∃ a xs, x = .ref a ∧ SqT K H1 a xs ∧ ∀ p, H1 p = none → Q (.ref p) (upd H1 p (.tup xs.reverse))
section
variable {X : Cx}
theorem pe_revT {e : Expr} {te : TE} {k : Nat} {p1 p2 p3 pos : Pos} (he : PE X e te) : PE X (.Subscript e (.Slice none none (some (.UnaryOp .USub (.Constant (.int 1) k p1) p2)) p3) pos) (tRevT X.K te) := by
  refine ⟨fun pins s σ H Q I h => ?_⟩
  refine Subscript_ (thn (he.run pins s σ H _ I h) fun v s1 ⟨x, H1, I1, r1, q1⟩ => ?_)
  obtain ⟨a, xs, ex, hx, q⟩ := q1
  subst ex
  cases r1
  have hst : PO X (some (.UnaryOp .USub (.Constant (.int 1) k p1) p2)) (tPart (tUn (rU fun i => .int (-i)) (tC (.int 1)))) := po_some (pe_un un_neg pe_int)
  refine wpAny_Slice (thn (po_none.run pins s1 σ H1 (fun o H2 => o = none ∧ H2 = H1) I1 ⟨rfl, rfl⟩) fun vl s2 ⟨l, H2, I2, pl, el, e2⟩ => ?_)
  subst el e2
  refine thn (po_none.run pins s2 σ H2 (fun o H3 => o = none ∧ H3 = H2) I2 ⟨rfl, rfl⟩) fun vu s3 ⟨u, H3, I3, pu, eu, e3⟩ => ?_
  subst eu e3
  refine thn (hst.run pins s3 σ H3 (fun o H4 => o = some (-1) ∧ H4 = H3) I3 ⟨1, rfl, -1, rfl, rfl, rfl⟩) fun vs s4 ⟨o, H4, I4, ps, eo, e4⟩ => ?_
  subst eo e4
  have I5 : Inv X pins σ H4 { s4 with heap := s4.heap.push { cls := .type "slice", data := .fields #[vl, vu, vs] } } := I4.kept (t' := s4.toks) fun b ob q => Heap.get?_push_of_some _ q
  obtain ⟨its, r, ht, hz⟩ := I5.tuple hx
  have hlen := r.length
  show wpAny (model X.prog X.w) X.A (subscriptTail e (.Slice none none (some (.UnaryOp .USub (.Constant (.int 1) k p1) p2)) p3) (.ref a) (.ref s4.heap.objs.size)) (EP X pins σ Q) X.xe { s4 with heap := s4.heap.push { cls := .type "slice", data := .fields #[vl, vu, vs] } }
  refine tail_any (ops := [.ref a, .ref s4.heap.objs.size]) ht.typeIs (PyProof.Rows.slot_tuple_getitem.lookup) ?_ (by with_unfolding_all rfl)
  refine getItem_tuple_rev ht (Heap.IsSliceOf.new _ vl vu vs) pl pu ps ?_ (by rw [List.size_toArray]; omega)
  refine ⟨.ref _, _, I5.laid (t' := s4.toks) (o := .tup xs.reverse) (fun b ob q => Heap.get?_push_of_some _ q) (Nat.le_refl _) ?_, rfl, q _ (I5.hok.fresh (Nat.le_refl _))⟩
  exact ⟨by rw [List.length_reverse]; exact hz, _, r.reverse, IsTup.new _ _⟩
end
/-! ### enumerate over a tuple -/
set_option maxHeartbeats 1000000 in
theorem meets_enumerate_newT {v : Value} {o : Obj} {H : Heap → Prop} (B : Begins v o H) :
    Meets (Builtin.«enumerate.__new__» ⟨[.type "enumerate", v], []⟩) (fun _ R s => H s.heap ∧
      R (.ok (.ret (.ref (s.heap.push o).objs.size))) { s with heap := (s.heap.push o).push { cls := .type "enumerate", data := .fields #[.none, .bool false, .ref s.heap.objs.size, rawInt 0, .none, .none] } }) :=
  .of_wp fun prog w A R s h => by
    obtain ⟨hp, g, d, tk, os⟩ := s; obtain ⟨h1, h⟩ := h
    have hsub := sub_enumerate
    have q1 : ∀ {A' : Around} {E : Value → Shared → Prop} {Q : Value → Shared → Prop}, Q (.ref hp.objs.size) ⟨hp.push o, g, d, tk, os⟩ → wpAny (model prog w) A' (pyIter v) Q E ⟨hp, g, d, tk, os⟩ :=
      fun q => B.iter prog w _ _ ⟨hp, g, d, tk, os⟩ _ h1 q
    wp_walk using q1
    refine wpAny_stack_any fun st => wpAny_pure ?_
    split
    · rename_i c _ _ _ _ _
      cases (c == Value.type "enumerate")
      · wp_walk using q1
        exact ⟨_, rfl, h⟩
      · wp_walk using q1
        exact ⟨_, rfl, h⟩
    · wp_walk using q1
      exact ⟨_, rfl, h⟩
section
variable {prog : Program} {w : World} {A : Around} {E : Value → Shared → Prop} {s : Shared}
theorem enum_begins1 {v : Value} {o : Obj} {H : Heap → Prop} {Q : Value → Shared → Prop} (B : Begins v o H) (h1 : H s.heap)
    (h : ∀ h', IsEnum h' (s.heap.objs.size + 1) s.heap.objs.size 0 .none → h'.get? s.heap.objs.size = some o → h'.objs.size = s.heap.objs.size + 2 →
      (∀ b o, s.heap.get? b = some o → h'.get? b = some o) → Q (.ref (s.heap.objs.size + 1)) { s with heap := h' }) :
    wpAny (model prog w) A (call (.type "enumerate") [v]) Q E s := by
  refine callType_new F.called_enumerate (by decide) (F.typeCall_enumerate_1 _) (F.newCall_enumerate_1 _) (fun obj => F.args_object_init_2 obj _) F.entry_enumerate_new
    (meets_enumerate_newT B) ⟨h1, ?_⟩
  have hz : (s.heap.push o).objs.size = s.heap.objs.size + 1 := Heap.size_push ..
  show _ ∧ _
  rw [hz]
  have he : IsEnum ((s.heap.push o).push { cls := .type "enumerate", data := .fields #[.none, .bool false, .ref s.heap.objs.size, rawInt 0, .none, .none] }) (s.heap.objs.size + 1) s.heap.objs.size 0 .none := by
    have := Heap.get?_push_size (s.heap.push o) (o := { cls := .type "enumerate", data := .fields #[.none, .bool false, .ref s.heap.objs.size, rawInt 0, .none, .none] }) rfl
    rw [hz] at this; exact this
  refine ⟨⟨_, he, rfl⟩, h _ he (Heap.get?_push_of_some _ (Heap.get?_push_size _ B.free)) (by rw [Heap.size_push, hz]) fun b o x => Heap.get?_push_of_some _ (Heap.get?_push_of_some _ x)⟩
end
theorem enum_endT {prog : Program} {w : World} {A : Around} {E : Value → Shared → Prop} {s : Shared} {e it l : Addr} {i : Nat} {items : Array Value} {old : Value} {Q : Option Value → Shared → Prop} (hh : A.handled = none)
    (he : IsEnum s.heap e it i old) (hit : s.heap.IsTupleIter it l i) (hl : s.heap.IsTuple l items) (hx : items[i]? = none)
    (hQ : ∀ h', Heap.ExtBut it s.heap h' → Q none { s with heap := h' }) : wpAny (model prog w) A (pyNext (.ref e)) Q E s := by
  have hT : s.TypeIs (.ref e) "enumerate" := ⟨_, he, rfl⟩
  unfold pyNext
  refine wpAny_bind (wpAny_attempt (wpAny_callSpecial?_slot (name := Str.ofString "__next__") hT F.slot_enumerate_next
    (wpAny_call_entry F.slot_enumerate_next hT F.entry_enumerate_next ?_ (F.args_enumerate_next_1 _))))
  show wpAny _ _ (field (.ref e) 2 >>= _) _ _ _
  refine wpAny_bind (wpAny_field he rfl (x := .ref it) rfl ?_)
  refine wpAny_bind (wpAny_nextOf_tuple_end hh hit hl hx fun h' x he' hx' => ?_)
  obtain ⟨o, ho, hc⟩ := hx'
  refine wpAny_bind (wpAny_isInstance (T := "StopIteration") (b := true) ⟨o, ho, hc⟩ isSubtype_stop ?_)
  exact wpAny_pure (hQ _ he')
def IteT (K : PySem.W.Frag) (a : Addr) : It :=
  ⟨fun i H => ∃ (xs : List V) (x : V), SqT K H a xs ∧ xs[i]? = some x, fun i H v H' => ∃ T x, v = .ref T ∧ H T = none ∧ H' = upd H T (.tup [.int (i : Nat), x]) ∧ ∀ xs, SqT K H a xs → xs[i]? = some x, fun i H => ∃ xs : List V, SqT K H a xs ∧ xs.length ≤ i⟩
theorem turn_enumT {P : Program} {w : World} {K : PySem.W.Frag} {elts : List Expr} {kk : Nat} {tpos : Pos} (a e it : Addr) :
    Turn P w K (.Tuple elts kk tpos) (IteT K a) [e, it] e (fun i h => (∃ old, IsEnum h e it ((i : Nat) : Int) old) ∧ h.IsTupleIter it a i ∧ e ≠ it ∧ a ≠ e ∧ a ≠ it) where
  mem := by simp
  obj := fun i h st b hb => by
    obtain ⟨⟨old, he⟩, ⟨o, ho, hc, hd⟩, _⟩ := st
    have e' : b = e ∨ b = it := by simpa using hb
    rcases e' with z | z
    · rw [z]; exact ⟨_, he, fun v q => nomatch q⟩
    · rw [z]; exact ⟨o, ho, fun v q => by rw [hd] at q; cases q⟩
  keep := fun i h h' st k => let ⟨⟨old, he⟩, hi, hne⟩ := st; ⟨⟨old, k e (by simp) _ he⟩, hi.at fun o q => k it (by simp) o q, hne⟩
  item := by
    intro X hP hw hK hc i pins s σ H E I hf st hg
    subst hP hw hK
    obtain ⟨⟨old, he⟩, hit, hne, hae, hai⟩ := st
    obtain ⟨xs, x, hq, hx⟩ := hg
    obtain ⟨its, rv, p, hz⟩ := I.tuple hq
    obtain ⟨u, hu, ru⟩ := rv.get hx
    have hel : e < s.heap.objs.size := Heap.lt_size he
    have hil : it < s.heap.objs.size := by obtain ⟨_, q, _⟩ := hit; exact Heap.lt_size q
    have hlt : i < its.toArray.size := by
      have := (List.getElem?_eq_some_iff.mp hu).1
      rw [List.size_toArray]; exact this
    refine wpAny_pyNext_enum_itemC (Draws.tuple (A := X.A.in1) (I.ok.hd hc) it a hai its.toArray) he (c := ((i : Nat) : Int)) ⟨hit, (show s.heap.IsTuple a its.toArray from p)⟩ hlt hne (by simp [hne, Ne.symm hae]) fun y h' tk hy ho hit' hT hsz hk => ?_
    have eu : y = u := by
      have h1 : its.toArray[i]? = some y := hy
      have h2 : its.toArray[i]? = some u := by simpa using hu
      rw [h2] at h1
      exact (Option.some.inj h1).symm
    subst eu
    refine ⟨_, rfl, wpAny_letOwnedTupleGo_enum (s := { s with heap := h', toks := tk + 1 }) ho fun h'' he' sb => ?_⟩
    have hT2 : h''.get? s.heap.objs.size = some { cls := .type "tuple", data := .seq #[.int i tk, y] } := (sb.2 _ (Nat.ne_of_gt hel)).trans hT
    have new : ObjOk X.prog X.w (upd H s.heap.objs.size (.tup [.int (i : Nat), x])) h'' s.heap.objs.size (.tup [.int (i : Nat), x]) :=
      ⟨by show 2 ≤ sizeLine; decide, [.int i tk, y], .cons ⟨_, rfl⟩ (.cons ru .nil), ⟨_, hT2, rfl, _, rfl⟩⟩
    have I1 : Inv X pins σ (upd H s.heap.objs.size (.tup [.int (i : Nat), x])) { s with heap := h'', toks := tk + 1 } :=
      I.turnedNew (ch := [e, it]) (fun b ob hb q => (sb.2 b (fun z => hb (by simp [z]))).trans (hk b ob (fun z => hb (by simp [z])) (fun z => hb (by simp [z])) q)) hf (Nat.le_refl _) new
    refine ⟨.ref s.heap.objs.size, _, I1, rfl, ⟨_, x, rfl, I.hok.fresh (Nat.le_refl _), rfl, fun ys hy => by rw [I.tuple_inj hy hq]; exact hx⟩, ⟨⟨y, ?_⟩, hit'.1.at fun o q => (sb.2 it (Ne.symm hne)).trans q, hne, hae, hai⟩, fun b hb => ?_⟩
    · have e1 : ((i + 1 : Nat) : Int) = (i : Int) + 1 := by omega
      rw [e1]; exact he'
    · have hb' : b < s.heap.objs.size := by
        have e' : b = e ∨ b = it := by simpa using hb
        rcases e' with z | z
        · rw [z]; exact hel
        · rw [z]; exact hil
      rw [upd_ne (Nat.ne_of_lt hb')]
      exact (hf b hb).1
  done := by
    intro X hP hw hK hc i pins s σ H E I hf st hg
    subst hP hw hK
    obtain ⟨⟨old, he⟩, hit, hne, hae, hai⟩ := st
    obtain ⟨xs, hq, hx⟩ := hg
    obtain ⟨its, rv, p, hz⟩ := I.tuple hq
    obtain ⟨f0, f1, f2, f3, f4, f5⟩ := hf it (by simp)
    have hl := rv.length
    exact enum_endT (I.ok.hd hc) he hit (show s.heap.IsTuple a its.toArray from p) (by simp; omega) fun h' eb => ⟨rfl, I.turned (t' := s.toks) (fun b o hb q => eb b o hb q) f0 f1 f3 f4 f5⟩
  self := fun A i s Q E st h => let ⟨⟨_, he⟩, _⟩ := st; wpAny_pyIter_enum he h
def iEnumT (K : PySem.W.Frag) (ta : TA) : TI := fun σ H R => ta σ H fun vs H1 => ∃ a xs, vs = [.ref a] ∧ SqT K H1 a xs ∧ R (IteT K a) H1
theorem pi_enumT {X : Cx} {e : Expr} {ta : TA} {p pos tpos : Pos} {elts : List Expr} {kk : Nat} (hg : Gl X "enumerate") (hm : X.mg "enumerate" = none) (ha : PA X [e] ta) (hs : starEach [e] X.env = [(false, eval e X.env)] := by rfl) :
    PI X (.Tuple elts kk tpos) (.Call (.Name "enumerate" p) [e] [] pos) (iEnumT X.K ta) := by
  refine ⟨fun pins s σ H R I h => ?_⟩
  refine Call_ (ld_blt I hg hm boot_enumerate (PyProof.Rows.callWith_type1 (thn (ha.run pos pins s σ H _ I h) fun us s1 ⟨vs, H1, I1, r1, q1⟩ => ?_) hs rfl))
  obtain ⟨a, xs, ex, hq, q⟩ := q1
  subst ex
  cases r1 with
  | cons r rr =>
    cases rr
    cases r
    obtain ⟨its, rv, p', hz⟩ := I1.tuple hq
    have hal : a < s1.heap.objs.size := by obtain ⟨o, ho, _⟩ := p'; exact Heap.lt_size ho
    refine enum_begins1 (begins_tuple a its.toArray) (show s1.heap.IsTuple a its.toArray from p') fun h' he hit hsz hk => wpAny_pyIter_enum he ?_
    have I2 : Inv X pins σ H1 { s1 with heap := h' } := I1.kept (t' := s1.toks) hk
    refine ⟨s1.heap.objs.size + 1, [s1.heap.objs.size + 1, s1.heap.objs.size], _, _, H1, rfl, I2, turn_enumT a (s1.heap.objs.size + 1) s1.heap.objs.size, ⟨⟨.none, he⟩, ⟨_, hit, rfl, rfl⟩, Nat.succ_ne_self _, Nat.ne_of_lt (Nat.lt_succ_of_lt hal), Nat.ne_of_lt hal⟩, fun b hb => ?_, q⟩
    have e' : b = s1.heap.objs.size + 1 ∨ b = s1.heap.objs.size := by simpa using hb
    have hle : s1.heap.objs.size ≤ b := by
      rcases e' with z | z
      · rw [z]; exact Nat.le_add_right _ _
      · rw [z]; exact Nat.le_refl _
    exact I1.fpOk hle (I1.hok.fresh hle)
theorem walk_enumT {K : PySem.W.Frag} {a : Addr} {xs : List V} : Walk (IteT K a) xs.length (fun H => SqT K H a xs) (YPair (fun i => some (.int (i : Nat))) (fun i => xs[i]?)) := by
  refine ⟨fun i _ hi q => ⟨xs, xs[i], q, by simp [hi]⟩, fun _ q => ⟨xs, q, Nat.le_refl _⟩, fun i H v H' _ q y => ?_⟩
  obtain ⟨T, x, h1, h2, h3, h4⟩ := y
  exact ⟨T, .int (i : Nat), x, h1, h2, h3, rfl, h4 xs q⟩
theorem walk_zipT {K : PySem.W.Frag} {a b : Addr} {xs ys : List V} {n : Nat} (hn : n = min xs.length ys.length) : Walk (RZ.ItzT K a b) n (fun H => SqT K H a xs ∧ SqT K H b ys) (YPair (fun i => xs[i]?) (fun i => ys[i]?)) := by
  subst hn
  refine ⟨fun i _ hi q => ?_, fun _ q => ⟨xs, ys, q.1, q.2, by omega⟩, fun i H v H' _ q y => ?_⟩
  · have h1 : i < xs.length := by omega
    have h2 : i < ys.length := by omega
    exact ⟨xs, ys, xs[i], ys[i], q.1, q.2, by simp [h1], by simp [h2]⟩
  · obtain ⟨T, x, z, h1, h2, h3, h4, h5⟩ := y
    exact ⟨T, x, z, h1, h2, h3, h4 xs q.1, h5 ys q.2⟩
end Mo

set_option Elab.async false
set_option linter.all false
set_option maxHeartbeats 4000000
/-! The mathematics: an amount as data; an ordered group; the three scales. -/
namespace Mo
inductive Am where
  | i (n : Int)
  | t (ns : List Int)
deriving DecidableEq
def Am.small : Am → Prop
  | .i _ => True
  | .t ns => ns.length ≤ 4
structure Grp where
  α : Type
  am : α → Am
  add : α → α → α
  neg : α → α
  zero : α
  lt : α → α → Bool
  ok : Nat → α → Prop
  inj : ∀ a b, am a = am b → a = b
  small : ∀ a, (am a).small
  assoc : ∀ a b c, add (add a b) c = add a (add b c)
  comm : ∀ a b, add a b = add b a
  addz : ∀ a, add a zero = a
  addn : ∀ a, add a (neg a) = zero
  irr : ∀ a, lt a a = false
  tri : ∀ a b, lt a b = true ∨ a = b ∨ lt b a = true
  trans : ∀ a b c, lt a b = true → lt b c = true → lt a c = true
  ltadd : ∀ a b c, lt (add a c) (add b c) = lt a b
  ok_add : ∀ s t a b, ok s a → ok t b → ok (s + t) (add a b)
  ok_neg : ∀ s a, ok s a → ok s (neg a)
  ok_zero : ok 1 zero
  ok_mono : ∀ s t a, s ≤ t → ok s a → ok t a
namespace Grp
variable (G : Grp)
def sum (l : List G.α) : G.α := l.foldl G.add G.zero
variable {G}
theorem zadd (a : G.α) : G.add G.zero a = a := by rw [G.comm, G.addz]
theorem nadd (a : G.α) : G.add (G.neg a) a = G.zero := by rw [G.comm, G.addn]
theorem foldl_add : ∀ (l : List G.α) (a : G.α), l.foldl G.add a = G.add a (G.sum l)
  | [], a => (G.addz a).symm
  | x :: r, a => by
    show r.foldl G.add (G.add a x) = G.add a (r.foldl G.add (G.add G.zero x))
    rw [foldl_add r, foldl_add r (G.add G.zero x), zadd, G.assoc]
theorem sum_nil : G.sum [] = G.zero := rfl
theorem sum_cons (x : G.α) (r : List G.α) : G.sum (x :: r) = G.add x (G.sum r) := by
  show r.foldl G.add (G.add G.zero x) = _
  rw [foldl_add, zadd]
theorem sum_app (l r : List G.α) : G.sum (l ++ r) = G.add (G.sum l) (G.sum r) := by
  unfold sum
  rw [List.foldl_append, foldl_add]
  rfl
theorem sum_one (x : G.α) : G.sum [x] = x := by rw [sum_cons, sum_nil, G.addz]
theorem sum_two (x y : G.α) : G.sum [x, y] = G.add x y := by rw [sum_cons, sum_one]
theorem sum_rev (l : List G.α) : G.sum l.reverse = G.sum l := by
  induction l with
  | nil => rfl
  | cons x r ih => rw [List.reverse_cons, sum_app, sum_one, ih, sum_cons, G.comm]
theorem neg_neg (a : G.α) : G.neg (G.neg a) = a := by
  have h : G.add (G.add a (G.neg a)) (G.neg (G.neg a)) = a := by rw [G.assoc, G.addn, G.addz]
  rw [G.addn, zadd] at h
  exact h
theorem sub_add (a b : G.α) : G.add (G.add a (G.neg b)) b = a := by rw [G.assoc, nadd, G.addz]
theorem lt_neg (a b : G.α) : G.lt (G.neg b) (G.neg a) = G.lt a b := by
  have h := G.ltadd (G.neg b) (G.neg a) (G.add a b)
  have e1 : G.add (G.neg b) (G.add a b) = a := by rw [G.comm a b, ← G.assoc, nadd, zadd]
  have e2 : G.add (G.neg a) (G.add a b) = b := by rw [← G.assoc, nadd, zadd]
  rw [e1, e2] at h
  exact h.symm
theorem sub_lt (a b : G.α) : G.lt (G.add a (G.neg b)) G.zero = G.lt a b := by
  have h := G.ltadd a b (G.neg b)
  rw [G.addn] at h
  exact h
theorem lt_sub (a b : G.α) : G.lt G.zero (G.add a (G.neg b)) = G.lt b a := by
  have h := G.ltadd b a (G.neg b)
  rw [G.addn] at h
  exact h
theorem sub_zero (a b : G.α) (h : G.add a (G.neg b) = G.zero) : a = b := by
  have e := sub_add a b
  rw [h, zadd] at e
  exact e.symm
theorem asym (a b : G.α) (h : G.lt a b = true) : G.lt b a = false := by
  cases e : G.lt b a with
  | false => rfl
  | true =>
    have z := G.trans a b a h e
    rw [G.irr] at z
    cases z
theorem add_lt (a b : G.α) (h : G.lt G.zero b = true) : G.lt a (G.add a b) = true := by
  have e := G.ltadd G.zero b a
  rw [zadd, G.comm b a] at e
  rw [e]
  exact h
theorem ok_sum {s : Nat} : ∀ {l : List G.α}, (∀ x ∈ l, G.ok s x) → G.ok (l.length * s + 1) (G.sum l)
  | [], _ => by
    rw [List.length_nil, Nat.zero_mul, Nat.zero_add]
    exact G.ok_zero
  | x :: r, h => by
    rw [sum_cons, List.length_cons, Nat.succ_mul]
    have h1 := G.ok_add _ _ _ _ (h x (List.mem_cons_self ..)) (ok_sum fun y hy => h y (List.mem_cons_of_mem _ hy))
    exact G.ok_mono _ _ _ (by omega) h1
/-- the sign as a number -/
def sgn (G : Grp) [DecidableEq G.α] (a : G.α) : Int := if a = G.zero then 0 else if G.lt a G.zero = true then -1 else 1
end Grp
/-! ### sums -/
abbrev gSum : Grp where
  α := Int
  am := .i
  add := (· + ·)
  neg := fun a => 0 - a
  zero := 0
  lt := fun a b => decide (a < b)
  ok := fun _ _ => True
  inj := fun a b h => by injection h
  small := fun _ => trivial
  assoc := fun a b c => by omega
  comm := fun a b => by omega
  addz := fun a => by omega
  addn := fun a => by omega
  irr := fun a => decide_eq_false (by omega)
  tri := fun a b => by
    by_cases h : a < b
    · exact .inl (decide_eq_true h)
    · by_cases h2 : a = b
      · exact .inr (.inl h2)
      · exact .inr (.inr (decide_eq_true (by omega)))
  trans := fun a b c h1 h2 => decide_eq_true (by
    have := of_decide_eq_true h1
    have := of_decide_eq_true h2
    omega)
  ltadd := fun a b c => by
    by_cases h : a < b
    · rw [decide_eq_true h, decide_eq_true (by omega)]
    · rw [decide_eq_false h, decide_eq_false (by omega)]
  ok_add := fun _ _ _ _ _ _ => trivial
  ok_neg := fun _ _ _ => trivial
  ok_zero := trivial
  ok_mono := fun _ _ _ _ _ => trivial
/-! ### classes -/
abbrev lx : List Int → List Int → Bool := HT.lexLt
def zadd : List Int → List Int → List Int
  | [], _ => []
  | _, [] => []
  | a :: r, b :: s => (a + b) :: zadd r s
theorem zadd_len : ∀ {a b : List Int}, a.length = b.length → (zadd a b).length = a.length
  | [], [], _ => rfl
  | _ :: r, _ :: s, h => by
    show (zadd r s).length + 1 = r.length + 1
    rw [zadd_len (Nat.succ.inj h)]
theorem zadd_comm : ∀ a b : List Int, zadd a b = zadd b a
  | [], [] => rfl
  | [], _ :: _ => rfl
  | _ :: _, [] => rfl
  | a :: r, b :: s => by
    show (a + b) :: zadd r s = (b + a) :: zadd s r
    rw [zadd_comm r s, Int.add_comm]
theorem zadd_assoc : ∀ a b c : List Int, zadd (zadd a b) c = zadd a (zadd b c)
  | [], _, _ => rfl
  | _ :: _, [], _ => rfl
  | _ :: _, _ :: _, [] => rfl
  | a :: r, b :: s, c :: t => by
    show (a + b + c) :: zadd (zadd r s) t = (a + (b + c)) :: zadd r (zadd s t)
    rw [zadd_assoc r s t, Int.add_assoc]
theorem zadd_zero : ∀ (a : List Int), zadd a (List.replicate a.length 0) = a
  | [] => rfl
  | a :: r => by
    show (a + 0) :: zadd r (List.replicate r.length 0) = a :: r
    rw [zadd_zero r, Int.add_zero]
theorem zadd_neg : ∀ (a : List Int), zadd a (a.map fun x => 0 - x) = List.replicate a.length 0
  | [] => rfl
  | a :: r => by
    show (a + (0 - a)) :: zadd r (r.map fun x => 0 - x) = 0 :: List.replicate r.length 0
    rw [zadd_neg r, show a + (0 - a) = 0 by omega]
theorem lx_irr : ∀ a : List Int, lx a a = false
  | [] => rfl
  | a :: r => by
    show (if a = a then lx r r else decide (a < a)) = false
    rw [if_pos rfl, lx_irr r]
theorem lx_tri : ∀ a b : List Int, a.length = b.length → lx a b = true ∨ a = b ∨ lx b a = true
  | [], [], _ => .inr (.inl rfl)
  | a :: r, b :: s, h => by
    show (if a = b then lx r s else decide (a < b)) = true ∨ _ ∨ (if b = a then lx s r else decide (b < a)) = true
    by_cases e : a = b
    · subst e
      rw [if_pos rfl, if_pos rfl]
      rcases lx_tri r s (Nat.succ.inj h) with z | z | z
      · exact .inl z
      · exact .inr (.inl (by rw [z]))
      · exact .inr (.inr z)
    · rw [if_neg e, if_neg (Ne.symm e)]
      by_cases l : a < b
      · exact .inl (decide_eq_true l)
      · exact .inr (.inr (decide_eq_true (by omega)))
theorem lx_trans : ∀ a b c : List Int, lx a b = true → lx b c = true → lx a c = true
  | [], [], _, h, _ => by cases h
  | [], _ :: _, [], _, h => by cases h
  | [], _ :: _, _ :: _, _, _ => rfl
  | _ :: _, [], _, h, _ => by cases h
  | _ :: _, _ :: _, [], _, h => by cases h
  | a :: r, b :: s, c :: t, h1, h2 => by
    have h1 : (if a = b then lx r s else decide (a < b)) = true := h1
    have h2 : (if b = c then lx s t else decide (b < c)) = true := h2
    show (if a = c then lx r t else decide (a < c)) = true
    by_cases e1 : a = b
    · rw [if_pos e1] at h1
      by_cases e2 : b = c
      · rw [if_pos e2] at h2
        rw [if_pos (by omega)]
        exact lx_trans r s t h1 h2
      · rw [if_neg e2] at h2
        have := of_decide_eq_true h2
        rw [if_neg (by omega)]
        exact decide_eq_true (by omega)
    · rw [if_neg e1] at h1
      have l1 := of_decide_eq_true h1
      by_cases e2 : b = c
      · rw [if_neg (by omega)]
        exact decide_eq_true (by omega)
      · rw [if_neg e2] at h2
        have := of_decide_eq_true h2
        rw [if_neg (by omega)]
        exact decide_eq_true (by omega)
theorem lx_add : ∀ a b c : List Int, a.length = c.length → b.length = c.length → lx (zadd a c) (zadd b c) = lx a b
  | [], [], [], _, _ => rfl
  | [], _ :: _, [], _, h => by cases h
  | [], _, _ :: _, h, _ => by cases h
  | _ :: _, _, [], h, _ => by cases h
  | _ :: _, [], _ :: _, _, h => by cases h
  | a :: r, b :: s, c :: t, h1, h2 => by
    show (if a + c = b + c then lx (zadd r t) (zadd s t) else decide (a + c < b + c)) = (if a = b then lx r s else decide (a < b))
    by_cases e : a = b
    · rw [if_pos e, if_pos (by omega)]
      exact lx_add r s t (Nat.succ.inj h1) (Nat.succ.inj h2)
    · rw [if_neg e, if_neg (by omega)]
      by_cases l : a < b
      · rw [decide_eq_true l, decide_eq_true (by omega)]
      · rw [decide_eq_false l, decide_eq_false (by omega)]
abbrev gCls (k : Nat) (hk : k ≤ 4) : Grp where
  α := { l : List Int // l.length = k }
  am := fun a => .t a.1
  add := fun a b => ⟨zadd a.1 b.1, by rw [zadd_len (a.2.trans b.2.symm)]; exact a.2⟩
  neg := fun a => ⟨a.1.map fun x => 0 - x, by rw [List.length_map]; exact a.2⟩
  zero := ⟨List.replicate k 0, List.length_replicate ..⟩
  lt := fun a b => lx a.1 b.1
  ok := fun _ _ => True
  inj := fun a b h => by
    have e : a.1 = b.1 := by injection h
    exact Subtype.ext e
  small := fun a => show a.1.length ≤ 4 by rw [a.2]; exact hk
  assoc := fun a b c => Subtype.ext (zadd_assoc ..)
  comm := fun a b => Subtype.ext (zadd_comm ..)
  addz := fun a => Subtype.ext (by
    show zadd a.1 (List.replicate k 0) = a.1
    have := zadd_zero a.1
    rw [a.2] at this
    exact this)
  addn := fun a => Subtype.ext (by
    show zadd a.1 (a.1.map fun x => 0 - x) = List.replicate k 0
    have := zadd_neg a.1
    rw [a.2] at this
    exact this)
  irr := fun a => lx_irr a.1
  tri := fun a b => by
    rcases lx_tri a.1 b.1 (a.2.trans b.2.symm) with z | z | z
    · exact .inl z
    · exact .inr (.inl (Subtype.ext z))
    · exact .inr (.inr z)
  trans := fun a b c h1 h2 => lx_trans a.1 b.1 c.1 h1 h2
  ltadd := fun a b c => lx_add a.1 b.1 c.1 (a.2.trans c.2.symm) (b.2.trans c.2.symm)
  ok_add := fun _ _ _ _ _ _ => trivial
  ok_neg := fun _ _ _ => trivial
  ok_zero := trivial
  ok_mono := fun _ _ _ _ _ => trivial
/-! ### odds -/
abbrev QP := { q : Rat // 0 < q }
def okQ (s : Nat) (q : Rat) : Prop := q.num.natAbs < 2 ^ s ∧ q.den < 2 ^ s
theorem num_mul_le (a b : Rat) : (a * b).num.natAbs ≤ a.num.natAbs * b.num.natAbs := by
  have hd : ((((a.num * b.num).natAbs.gcd (a.den * b.den) : Nat)) : Int) ∣ a.num * b.num := Int.dvd_natAbs.mp (Int.natCast_dvd_natCast.mpr (Nat.gcd_dvd_left _ _))
  rw [Rat.num_mul, Int.natAbs_ediv_of_dvd hd, Int.natAbs_mul]
  exact Nat.div_le_self _ _
theorem den_mul_le (a b : Rat) : (a * b).den ≤ a.den * b.den := by
  rw [Rat.den_mul]
  exact Nat.div_le_self _ _
theorem okQ_mul {s t : Nat} {a b : Rat} (ha : okQ s a) (hb : okQ t b) : okQ (s + t) (a * b) := by
  unfold okQ
  rw [Nat.pow_add]
  exact ⟨Nat.lt_of_le_of_lt (num_mul_le a b) (Nat.mul_lt_mul'' ha.1 hb.1), Nat.lt_of_le_of_lt (den_mul_le a b) (Nat.mul_lt_mul'' ha.2 hb.2)⟩
theorem okQ_mono {s t : Nat} {a : Rat} (h : s ≤ t) (ha : okQ s a) : okQ t a :=
  ⟨Nat.lt_of_lt_of_le ha.1 (Nat.pow_le_pow_right (by decide) h), Nat.lt_of_lt_of_le ha.2 (Nat.pow_le_pow_right (by decide) h)⟩
theorem num_pos_of {q : Rat} (h : 0 < q) : 0 < q.num := by
  have := (Rat.lt_iff 0 q).mp h
  simpa using this
theorem pos_of_num {q : Rat} (h : 0 < q.num) : 0 < q := by
  refine (Rat.lt_iff 0 q).mpr ?_
  simpa using h
theorem inv_num {q : Rat} (h : 0 < q) : (q⁻¹).num = (q.den : Int) := by
  rw [Rat.num_inv, Int.sign_eq_one_of_pos (num_pos_of h), Int.one_mul]
theorem inv_den {q : Rat} (h : 0 < q) : ((q⁻¹).den : Int) = q.num := by
  have hp := num_pos_of h
  rw [Rat.den_inv, if_neg (by omega)]
  omega
theorem okQ_inv {s : Nat} {q : Rat} (h : 0 < q) (ha : okQ s q) : okQ s q⁻¹ := by
  have h1 := inv_num h
  have h2 := inv_den h
  have h3 := num_pos_of h
  obtain ⟨h4, h5⟩ := ha
  exact ⟨by omega, by omega⟩
theorem okQ_one : okQ 1 1 := ⟨by decide, by decide⟩
abbrev gOdd : Grp where
  α := QP
  am := fun q => .t [q.1.num, (q.1.den : Int)]
  add := fun a b => ⟨a.1 * b.1, Rat.mul_pos a.2 b.2⟩
  neg := fun a => ⟨a.1⁻¹, Rat.inv_pos.mpr a.2⟩
  zero := ⟨1, by decide⟩
  lt := fun a b => decide (a.1 < b.1)
  ok := fun s a => okQ s a.1
  inj := fun a b h => by
    have e : [a.1.num, (a.1.den : Int)] = [b.1.num, (b.1.den : Int)] := by injection h
    injection e with e1 e2
    injection e2 with e2 _
    exact Subtype.ext (Rat.ext e1 (by omega))
  small := fun a => (by decide : 2 ≤ 4)
  assoc := fun a b c => Subtype.ext (Rat.mul_assoc ..)
  comm := fun a b => Subtype.ext (Rat.mul_comm ..)
  addz := fun a => Subtype.ext (Rat.mul_one _)
  addn := fun a => Subtype.ext (Rat.mul_inv_cancel _ (Rat.ne_of_gt a.2))
  irr := fun a => decide_eq_false Rat.lt_irrefl
  tri := fun a b => by
    by_cases h : a.1 < b.1
    · exact .inl (decide_eq_true h)
    · rcases Rat.le_iff_lt_or_eq.mp (Rat.not_lt.mp h) with z | z
      · exact .inr (.inr (decide_eq_true z))
      · exact .inr (.inl (Subtype.ext z.symm))
  trans := fun a b c h1 h2 => decide_eq_true (by
    have h1 := of_decide_eq_true h1
    have h2 := of_decide_eq_true h2
    grind)
  ltadd := fun a b c => by
    by_cases h : a.1 < b.1
    · rw [decide_eq_true h]
      exact decide_eq_true ((Rat.mul_lt_mul_right c.2).mpr h)
    · rw [decide_eq_false h]
      exact decide_eq_false fun z => h ((Rat.mul_lt_mul_right c.2).mp z)
  ok_add := fun s t a b ha hb => okQ_mul ha hb
  ok_neg := fun s a ha => okQ_inv a.2 ha
  ok_zero := okQ_one
  ok_mono := fun s t a h ha => okQ_mono h ha
/-! ### fractions as pairs -/
theorem qd_num {a b : Int} (hb : 0 < b) : (Rat.divInt a b).num = a / (Int.gcd a b : Int) := by
  rw [Rat.num_divInt, Int.sign_eq_one_of_pos hb, Int.one_mul, Int.gcd_comm]
theorem qd_den {a b : Int} (hb : 0 < b) : ((Rat.divInt a b).den : Int) = b / (Int.gcd a b : Int) := by
  rw [Rat.den_divInt, if_neg (by omega), Int.gcd_comm, Int.natCast_ediv, Int.natAbs_of_nonneg (by omega)]
theorem gcd_self_q (q : Rat) : Int.gcd q.num (q.den : Int) = 1 := by
  have := q.reduced
  unfold Nat.Coprime at this
  unfold Int.gcd
  rw [Int.natAbs_natCast]
  exact this
theorem qd_self (q : Rat) : Rat.divInt q.num (q.den : Int) = q := Rat.num_divInt_den q
theorem qd_pos {a b : Int} (ha : 0 < a) (hb : 0 < b) : 0 < (Rat.divInt a b) := by
  refine pos_of_num ?_
  rw [qd_num hb]
  have hg : (0 : Int) < (Int.gcd a b : Int) := by
    have : 0 < Int.gcd a b := Int.gcd_pos_of_ne_zero_left _ (by omega)
    omega
  have hd : ((Int.gcd a b : Nat) : Int) ∣ a := Int.gcd_dvd_left ..
  exact Int.ediv_pos_of_pos_of_dvd ha (by omega) hd
theorem okQ_qd {a b : Int} {s : Nat} (ha : 0 ≤ a) (hb : 0 < b) (h1 : a.natAbs < 2 ^ s) (h2 : b.natAbs < 2 ^ s) : okQ s (Rat.divInt a b) := by
  have e1 := qd_num (a := a) hb
  have e2 := qd_den (a := a) hb
  have l1 : a / (Int.gcd a b : Int) ≤ a := Int.ediv_le_self _ ha
  have l2 : b / (Int.gcd a b : Int) ≤ b := Int.ediv_le_self _ (by omega)
  have p1 : 0 ≤ a / (Int.gcd a b : Int) := Int.ediv_nonneg ha (by omega)
  exact ⟨by omega, by omega⟩
end Mo

set_option Elab.async false
set_option linter.all false
set_option maxHeartbeats 4000000
/-! The mathematics of the merging sort: runs of indices, merged by a test. -/
namespace Mo
def mgs (f : Int → Int → Bool) : List Int → List Int → List Int
  | [], o => o
  | x :: r, o => o.takeWhile (f x) ++ x :: mgs f r (o.dropWhile (f x))
def pr (f : Int → Int → Bool) : List (List Int) → List (List Int)
  | a :: b :: r => mgs f a b :: pr f r
  | [a] => [a]
  | [] => []
theorem pr_len (f : Int → Int → Bool) : ∀ l : List (List Int), (pr f l).length = (l.length + 1) / 2
  | [] => rfl
  | [a] => by simp [pr]
  | a :: b :: r => by
    show (pr f r).length + 1 = (r.length + 1 + 1 + 1) / 2
    rw [pr_len f r]
    omega
def rkW (f : Int → Int → Bool) (runs : List (List Int)) : List (List Int) :=
  if h : runs.length ≤ 1 then runs else rkW f (pr f runs)
termination_by runs.length
decreasing_by
  rw [pr_len]
  omega
theorem rkW_done {f : Int → Int → Bool} {runs : List (List Int)} (h : runs.length ≤ 1) : rkW f runs = runs := by
  rw [rkW, dif_pos h]
theorem rkW_step {f : Int → Int → Bool} {runs : List (List Int)} (h : ¬ runs.length ≤ 1) : rkW f runs = rkW f (pr f runs) := by
  rw [rkW, dif_neg h]
def runs0 (n : Nat) : List (List Int) := (List.range n).map fun (i : Nat) => [((i : Nat) : Int)]
def rank (f : Int → Int → Bool) (n : Nat) : List Int := (rkW f (runs0 n)).headD []
/-- what the runs are at each time: none is empty, all indices below n, not too many -/
def RunsOk (n : Nat) (runs : List (List Int)) : Prop := (∀ r ∈ runs, r ≠ [] ∧ ∀ x ∈ r, 0 ≤ x ∧ x < (n : Int)) ∧ (runs.flatten).length ≤ n
theorem mem_mgs (f : Int → Int → Bool) : ∀ (a b : List Int) (x : Int), x ∈ mgs f a b → x ∈ a ∨ x ∈ b
  | [], b, x, h => .inr h
  | y :: r, b, x, h => by
    have h : x ∈ b.takeWhile (f y) ++ y :: mgs f r (b.dropWhile (f y)) := h
    rcases List.mem_append.mp h with h | h
    · exact .inr ((List.takeWhile_sublist _).subset h)
    · rcases List.mem_cons.mp h with h | h
      · exact .inl (h ▸ List.mem_cons_self ..)
      · rcases mem_mgs f r _ x h with h | h
        · exact .inl (List.mem_cons_of_mem _ h)
        · exact .inr ((List.dropWhile_sublist _).subset h)
theorem len_mgs (f : Int → Int → Bool) : ∀ a b : List Int, (mgs f a b).length = a.length + b.length
  | [], b => by
    show b.length = 0 + b.length
    omega
  | y :: r, b => by
    show (b.takeWhile (f y) ++ y :: mgs f r (b.dropWhile (f y))).length = r.length + 1 + b.length
    rw [List.length_append, List.length_cons, len_mgs f r]
    have e := congrArg List.length (List.takeWhile_append_dropWhile (p := f y) (l := b))
    rw [List.length_append] at e
    omega
theorem pr_ok {f : Int → Int → Bool} {n : Nat} : ∀ {runs : List (List Int)}, (∀ r ∈ runs, r ≠ [] ∧ ∀ x ∈ r, 0 ≤ x ∧ x < (n : Int)) → ∀ r ∈ pr f runs, r ≠ [] ∧ ∀ x ∈ r, 0 ≤ x ∧ x < (n : Int)
  | [], _, r, h => by cases h
  | [a], h0, r, h => h0 r h
  | a :: b :: t, h0, r, h => by
    have h : r ∈ mgs f a b :: pr f t := h
    rcases List.mem_cons.mp h with h | h
    · subst h
      have ha := h0 a (List.mem_cons_self ..)
      have hb := h0 b (List.mem_cons_of_mem _ (List.mem_cons_self ..))
      refine ⟨fun e => ?_, fun x hx => ?_⟩
      · have el := congrArg List.length e
        rw [len_mgs, List.length_nil] at el
        have : 0 < a.length := List.length_pos_iff.mpr ha.1
        omega
      · rcases mem_mgs f a b x hx with z | z
        · exact ha.2 x z
        · exact hb.2 x z
    · exact pr_ok (fun q hq => h0 q (List.mem_cons_of_mem _ (List.mem_cons_of_mem _ hq))) r h
theorem pr_flat (f : Int → Int → Bool) : ∀ runs : List (List Int), (pr f runs).flatten.length = runs.flatten.length
  | [] => rfl
  | [a] => rfl
  | a :: b :: t => by
    show (mgs f a b :: pr f t).flatten.length = _
    rw [List.flatten_cons, List.length_append, pr_flat f t, len_mgs, List.flatten_cons, List.flatten_cons, List.length_append, List.length_append]
    omega
theorem RunsOk.pr {f : Int → Int → Bool} {n : Nat} {runs : List (List Int)} (h : RunsOk n runs) : RunsOk n (pr f runs) := ⟨pr_ok h.1, by rw [pr_flat]; exact h.2⟩
theorem runs0_flat : ∀ n : Nat, (runs0 n).flatten.length = n
  | 0 => rfl
  | n + 1 => by
    have ih := runs0_flat n
    unfold runs0 at ih ⊢
    rw [List.range_succ, List.map_append, List.flatten_append, List.length_append, ih]
    rfl
theorem runs0_ok (n : Nat) : RunsOk n (runs0 n) := by
  refine ⟨fun r hr => ?_, by rw [runs0_flat]; exact Nat.le_refl _⟩
  obtain ⟨i, hi, e⟩ := List.mem_map.mp hr
  have hlt := List.mem_range.mp hi
  subst e
  refine ⟨List.cons_ne_nil _ _, fun x hx => ?_⟩
  rw [List.mem_singleton.mp hx]
  omega
theorem runs0_len (n : Nat) : (runs0 n).length = n := by
  unfold runs0
  rw [List.length_map, List.length_range]
theorem rkW_ok {f : Int → Int → Bool} {n : Nat} : ∀ (m : Nat) (runs : List (List Int)), runs.length ≤ m → RunsOk n runs → RunsOk n (rkW f runs) ∧ (rkW f runs).length ≤ 1 ∧ (0 < runs.length → 0 < (rkW f runs).length)
  | 0, runs, h, hr => by
    rw [rkW_done (by omega)]
    exact ⟨hr, by omega, fun z => z⟩
  | m + 1, runs, h, hr => by
    by_cases h1 : runs.length ≤ 1
    · rw [rkW_done h1]
      exact ⟨hr, h1, fun z => z⟩
    · rw [rkW_step h1]
      have hl := pr_len f runs
      obtain ⟨a, b, c⟩ := rkW_ok (f := f) m (Mo.pr f runs) (by omega) hr.pr
      exact ⟨a, b, fun _ => c (by omega)⟩
theorem rank_ok {f : Int → Int → Bool} {n : Nat} (h0 : 0 < n) : rank f n ≠ [] ∧ (∀ x ∈ rank f n, 0 ≤ x ∧ x < (n : Int)) := by
  obtain ⟨a, b, c⟩ := rkW_ok (f := f) n (runs0 n) (by rw [runs0_len]; exact Nat.le_refl _) (runs0_ok n)
  have c := c (by rw [runs0_len]; exact h0)
  unfold rank
  cases e : rkW f (runs0 n) with
  | nil =>
    rw [e] at c
    cases c
  | cons r t => exact a.1 r (by rw [e]; exact List.mem_cons_self ..)
end Mo

set_option Elab.async false
set_option linter.all false
set_option maxRecDepth 100000
set_option maxHeartbeats 4000000
/-! What the walks share: defs by promises; amounts and scales in the heap; comparisons of amounts. -/
namespace Mo
open PySem PySem.Spec PyProof.Rows L2
section
variable {P : Program} {w : World} {K : PySem.W.Frag} {mg : Str → Option Value} {base : Heap} {x q m : Str} {st : Stmt} {N ps : List Str} {k : Nat} {sp : Sp} {C : Addr}
abbrev BodyOk (P : Program) (w : World) (K : PySem.W.Frag) (mg : Str → Option Value) (base : Heap) (N : List Str) (q : Str) (st : Stmt) (k : Nat) (sp : Sp) : Prop :=
  ∀ (f : Addr) (cdv : Value) (A : Around) (outer : List Env) (s : Shared) (H : Hp) (vs : List V) (Q : VK) (E : XK), Room k (A.deeper (envOfC q (defScope st) s.heap.objs.size f cdv)) → sp vs H Q E →
      ∃ t, PSs (cxOf CX0 P w K mg base N q (defScope st) f cdv A outer s H E).nox (defBody st) t ∧ t { nx := fun _ H' => Q .non H', rt := Q } (start N vs) H
abbrev BindOk (x q : Str) (st : Stmt) (ps : List Str) : Prop :=
  ∀ (kV doc pm : Value) (an : Option Addr) (cdv ct : Value) (us : List Value), us.length = ps.length → bindArgs (PySem.W.fnOf x q (defArgs st) (defBody st) (defScope st) .none kV doc pm an cdv ct) ⟨us, []⟩ = pure (ps.zip us)
theorem fnr_of {f : Addr} {fd : FuncData} (F : Fun K x q st f fd) (S : FnScope N ps (defScope st)) (len : ∀ vs H Q E, sp vs H Q E → vs.length = ps.length) (hb : BindOk x q st ps) (body : BodyOk P w K mg base N q st k sp) : FnR P w K mg base CX0 (k + 1) f sp := by
  have ok : FnOk P w K mg base CX0 (k + 1) f fd ps sp := F.ok S len (body f)
  exact (ok.raw (F.binds hb) .nil).imp fun vs H Q E h => by rw [List.append_nil]; exact h
theorem gf_of (D : Gd K mg x st) (S : FnScope N ps (defScope st)) (len : ∀ vs H Q E, sp vs H Q E → vs.length = ps.length) (hb : BindOk x x st ps) (body : BodyOk P w K mg base N x st k sp) : Gf P w K mg base (k + 1) x sp := by
  obtain ⟨f, fd, hm, F⟩ := D
  exact ⟨f, hm, F.kp, fnr_of F S len hb body⟩
theorem mf_of (D : Md K C m q st) (S : FnScope N ps (defScope st)) (len : ∀ vs H Q E, sp vs H Q E → vs.length = ps.length) (hb : BindOk m q st ps) (body : BodyOk P w K mg base N q st k sp) : Mf P w K mg base (k + 1) C m sp := by
  obtain ⟨f, fd, hm, F⟩ := D
  exact ⟨f, hm, fnr_of F S len hb body⟩
theorem sf_of (D : Sd K C m q st) (S : FnScope N ps (defScope st)) (len : ∀ vs H Q E, sp vs H Q E → vs.length = ps.length) (hb : BindOk m q st ps) (body : BodyOk P w K mg base N q st k sp) : Sf P w K mg base (k + 1) C m sp := by
  obtain ⟨p, f, fd, h1, h2, F⟩ := D
  exact ⟨p, f, h1, h2, F.kp, fnr_of F S len hb body⟩
theorem kf_of (hx : mg x = some (.ref C)) (D : ∃ f fd, Mk K C f ∧ Fun K m q st f fd) (S : FnScope N ps (defScope st)) (len : ∀ vs H Q E, sp vs H Q E → vs.length = ps.length) (hb : BindOk m q st ps) (body : BodyOk P w K mg base N q st k sp) : Kf P w K mg base (k + 1) x C sp := by
  obtain ⟨f, fd, hm, F⟩ := D
  exact ⟨hx, f, hm, fnr_of F S len hb body⟩
theorem Gf.mono {j : Nat} (G : Gf P w K mg base k x sp) (h : k ≤ j) : Gf P w K mg base j x sp := by
  obtain ⟨f, a, b, F⟩ := G
  exact ⟨f, a, b, F.mono h⟩
theorem Mf.mono {j : Nat} (G : Mf P w K mg base k C m sp) (h : k ≤ j) : Mf P w K mg base j C m sp := by
  obtain ⟨f, a, F⟩ := G
  exact ⟨f, a, F.mono h⟩
theorem cxnew0 : CXNew CX0 := fun _ _ _ _ _ _ _ _ _ _ _ _ h => h
/-- def m(a, *r) -/
theorem mfV_of {pa pv : Str} {nmax : Nat} (D : Md K C m q st) (S : FnScope N [pa, pv] (defScope st)) (hz : nmax ≤ sizeLine)
    (hb : ∀ (kV doc pm : Value) (an : Option Addr) (cdv ct : Value) (u : Value) (rest : List Value), rest.length ≤ nmax → bindArgs (PySem.W.fnOf m q (defArgs st) (defBody st) (defScope st) .none kV doc pm an cdv ct) ⟨u :: rest, []⟩ = (newTuple rest >>= fun t => pure [(pa, u), (pv, t)]))
    (body : BodyOk P w K mg base N q st k sp) : Mf P w K mg base (k + 1) C m (fun vs H Q E => ∃ v rest, vs = v :: rest ∧ rest.length ≤ nmax ∧ ∀ p, H p = none → sp [v, .ref p] (upd H p (.tup rest)) Q E) := by
  obtain ⟨f, fd, hm, F⟩ := D
  obtain ⟨oc, od, kV, doc, pm, an, cdv, ct, osl, rfl, lk, hcd⟩ := F.ex
  refine ⟨f, hm, fn_ofV (sp := sp) lk hcd S hz (hb kV doc pm an cdv ct) cxnew0 fun A outer s H vs Q E hr hsp => ?_⟩
  obtain ⟨t, h, z⟩ := body f cdv A outer s H vs Q E hr hsp
  exact ⟨t, h.nox, z⟩
end
/-! ### amounts in the heap -/
def AmV (H : Hp) (v : V) : Am → Prop
  | .i n => v = .int n
  | .t ns => ∃ p, v = .ref p ∧ H p = some (.tup (ns.map V.int))
theorem AmV.mono {H H' : Hp} {v : V} {a : Am} (s : Same H H') (h : AmV H v a) : AmV H' v a := by
  cases a with
  | i n => exact h
  | t ns =>
    obtain ⟨p, e, hp⟩ := h
    exact ⟨p, e, s _ _ hp⟩
theorem Same.upd {H H1 : Hp} {p : Addr} {o : HO} (s : Same H H1) (h : H1 p = none) : Same H (upd H1 p o) := fun b u e => by
  have e1 := s b u e
  rw [upd_ne (ne_of_none e1 h)]
  exact e1
theorem Same.new {H : Hp} {p : Addr} {o : HO} (h : H p = none) : Same H (L2.upd H p o) := Same.upd (Same.refl H) h
def Am.py : Am → PyData
  | .i n => .int n
  | .t ns => .tuple (ns.map .int)
theorem dpAll_ints (K : PySem.W.Frag) (H : Hp) : ∀ ns : List Int, DpAll K H (ns.map V.int) (ns.map .int)
  | [] => .nil
  | n :: r => .cons (.int n) (dpAll_ints K H r)
theorem AmV.dp {H : Hp} {v : V} {a : Am} (K : PySem.W.Frag) (h : AmV H v a) : Dp K H v a.py := by
  cases a with
  | i n =>
    cases h
    exact .int n
  | t ns =>
    obtain ⟨p, e, hp⟩ := h
    subst e
    exact .tup (SqT.of hp) (dpAll_ints K H ns)
theorem canLay_ints : ∀ ns : List Int, PyData.canLayAll0 (ns.map .int) = true
  | [] => by simp [PyData.canLayAll0]
  | n :: r => by simp [PyData.canLayAll0, PyData.canLay0, canLay_ints r]
theorem depth_ints : ∀ ns : List Int, PyData.depthAll (ns.map .int) = 0
  | [] => by simp [PyData.depthAll]
  | n :: r => by simp [PyData.depthAll, PyData.depth, depth_ints r]
theorem shaped_py (a : Am) : SeqAt.shaped a.py = true := by
  cases a with
  | i n => simp [SeqAt.shaped, Am.py, PyData.canLay0, PyData.depth]
  | t ns => simp [SeqAt.shaped, Am.py, PyData.canLay0, PyData.depth, canLay_ints, depth_ints]
theorem eqv_ints : ∀ ns ms : List Int, PyData.eqvAll (ns.map .int) (ms.map .int) = decide (ns = ms)
  | [], [] => by simp [PyData.eqvAll]
  | [], _ :: _ => by simp [PyData.eqvAll]
  | _ :: _, [] => by simp [PyData.eqvAll]
  | n :: r, m :: s => by
    rw [List.map_cons, List.map_cons]
    simp only [PyData.eqvAll, PyData.eqv, eqv_ints r s]
    by_cases h1 : n = m <;> by_cases h2 : r = s <;> simp [h1, h2]
theorem eqv_py (a b : Am) : PyData.eqv a.py b.py = decide (a = b) := by
  cases a with
  | i n =>
    cases b with
    | i m =>
      simp only [Am.py, PyData.eqv]
      by_cases h : n = m <;> simp [h]
    | t ms => simp [Am.py, PyData.eqv]
  | t ns =>
    cases b with
    | i m => simp [Am.py, PyData.eqv]
    | t ms =>
      simp only [Am.py, PyData.eqv, eqv_ints]
      by_cases h : ns = ms <;> simp [h]
/-- x == y, x != y of two amounts -/
def rEqA : R2 := fun x y H Q => ∃ a b, AmV H x a ∧ AmV H y b ∧ Q (.bl (decide (a = b))) H
def rNeA : R2 := fun x y H Q => ∃ a b, AmV H x a ∧ AmV H y b ∧ Q (.bl (!decide (a = b))) H
section
variable {X : Cx} {k : Nat}
theorem OpR.imp {f : Value → Value → Sem Value} {r r' : R2} (h : OpR X f r) (i : ∀ x y H Q, r' x y H Q → r x y H Q) : OpR X f r' := fun pins s σ H x y v u Q I rx ry q => h pins s σ H x y v u Q I rx ry (i x y H Q q)
theorem op_eqA (hr : Room k X.A) : OpR X (compareOp .Eq) rEqA := OpR.imp (op_eqD hr.units) fun x y H Q ⟨a, b, ha, hb, q⟩ => ⟨a.py, b.py, ha.dp X.K, hb.dp X.K, shaped_py a, shaped_py b, by rw [eqv_py]; exact q⟩
theorem op_neA (hr : Room k X.A) : OpR X (compareOp .NotEq) rNeA := OpR.imp (op_neD hr.units) fun x y H Q ⟨a, b, ha, hb, q⟩ => ⟨a.py, b.py, ha.dp X.K, hb.dp X.K, shaped_py a, shaped_py b, by rw [eqv_py]; exact q⟩
end
/-! ### scales in the heap -/
structure Kd where
  C : Addr
  G : Grp
  word : Str
  size : Int
def fsc (w s z o : V) : List (Str × V) := putF "own_one" o (putF "own_zero" z (putF "own_size" s (putF "own_word" w [])))
def ScAt (D : Kd) (H : Hp) (p : Addr) : Prop := ∃ dx z o, H p = some (.ins D.C dx (fsc (.str D.word) (.int D.size) z o)) ∧ AmV H z (D.G.am D.G.zero)
theorem ScAt.mono {D : Kd} {H H' : Hp} {p : Addr} (s : Same H H') (h : ScAt D H p) : ScAt D H' p := by
  obtain ⟨dx, z, o, h1, h2⟩ := h
  exact ⟨dx, z, o, s _ _ h1, h2.mono s⟩
theorem fsc_one (w s z o : V) : (fsc w s z o).lookup ("own_one" : Str) = some o := by unfold fsc; rw [lookup_putF, if_pos rfl]
theorem fsc_zero (w s z o : V) : (fsc w s z o).lookup ("own_zero" : Str) = some z := by unfold fsc; rw [lookup_putF, if_neg (by decide +kernel), lookup_putF, if_pos rfl]
theorem fsc_size (w s z o : V) : (fsc w s z o).lookup ("own_size" : Str) = some s := by unfold fsc; rw [lookup_putF, if_neg (by decide +kernel), lookup_putF, if_neg (by decide +kernel), lookup_putF, if_pos rfl]
theorem fsc_word (w s z o : V) : (fsc w s z o).lookup ("own_word" : Str) = some w := by
  unfold fsc; rw [lookup_putF, if_neg (by decide +kernel), lookup_putF, if_neg (by decide +kernel), lookup_putF, if_neg (by decide +kernel), lookup_putF, if_pos rfl]
def noF (m : Str) : Bool := decide (¬ m = "own_one") && (decide (¬ m = "own_zero") && (decide (¬ m = "own_size") && decide (¬ m = "own_word")))
theorem fsc_no {m : Str} (w s z o : V) (h : noF m = true) : (fsc w s z o).lookup m = none := by
  obtain ⟨h1, h⟩ := He.ba h
  obtain ⟨h2, h⟩ := He.ba h
  obtain ⟨h3, h4⟩ := He.ba h
  unfold fsc
  rw [lookup_putF, if_neg (of_decide_eq_true h1), lookup_putF, if_neg (of_decide_eq_true h2), lookup_putF, if_neg (of_decide_eq_true h3), lookup_putF, if_neg (of_decide_eq_true h4)]
  rfl
/-- a method call on a scale: what the reading of pe_m asks of the object -/
theorem sc_recv {D : Kd} {H : Hp} {p : Addr} {m : Str} (h : ScAt D H p) (hm : noF m = true) : ∃ dx fs, H p = some (.ins D.C dx fs) ∧ fs.lookup m = none := by
  obtain ⟨dx, z, o, h1, _⟩ := h
  exact ⟨dx, _, h1, fsc_no _ _ _ _ hm⟩
/-- values of amounts of the scale -/
abbrev Ams (G : Grp) (H : Hp) (vs : List V) (l : List G.α) : Prop := Paired (fun v a => AmV H v (G.am a)) vs l
theorem Ams.mono {G : Grp} {H H' : Hp} (s : Same H H') : ∀ {vs : List V} {l : List G.α}, Ams G H vs l → Ams G H' vs l
  | _, _, .nil => .nil
  | _, _, .cons h r => .cons (h.mono s) (Ams.mono s r)
theorem Paired.at_ {α β : Type} {F : α → β → Prop} : ∀ {xs : List α} {ys : List β} {i : Nat} {x : α}, Paired F xs ys → xs[i]? = some x → ∃ y, ys[i]? = some y ∧ F x y
  | [], _, _, _, _, e => by simp at e
  | _ :: _, _ :: _, 0, x, .cons h _, e => ⟨_, rfl, by
    have e : _ = x := Option.some.inj e
    rw [← e]
    exact h⟩
  | _ :: _, _ :: _, i + 1, x, .cons _ r, e => Paired.at_ (i := i) r e
theorem Paired.at2 {α β : Type} {F : α → β → Prop} : ∀ {xs : List α} {ys : List β} {i : Nat} {y : β}, Paired F xs ys → ys[i]? = some y → ∃ x, xs[i]? = some x ∧ F x y
  | _, [], _, _, _, e => by simp at e
  | _ :: _, _ :: _, 0, y, .cons h _, e => ⟨_, rfl, by
    have e : _ = y := Option.some.inj e
    rw [← e]
    exact h⟩
  | _ :: _, _ :: _, i + 1, y, .cons _ r, e => Paired.at2 (i := i) r e
end Mo

set_option Elab.async false
set_option linter.all false
set_option maxRecDepth 100000
set_option maxHeartbeats 4000000
namespace Mo
open PySem PySem.Spec PyProof.Rows L2
/-! ### is_integer, is_index, common_divisor, reduced -/
def spIsInt : Sp := fun vs H Q _ => ∃ n, vs = [.int n] ∧ Q (.bl true) H
def spIsIdx : Sp := fun vs H Q _ => ∃ t v, vs = [.int t, .int v] ∧ Q (.bl (decide (0 ≤ v ∧ v < t))) H
def spGcd : Sp := fun vs H Q _ => ∃ a b, vs = [.int a, .int b] ∧ 0 ≤ a ∧ 0 ≤ b ∧ Q (.int (Int.gcd a b : Int)) H
def spRed : Sp := fun vs H Q _ => ∃ a b s, vs = [.int a, .int b] ∧ 0 < a ∧ 0 < b ∧ a.natAbs < 2 ^ s ∧ b.natAbs < 2 ^ s ∧ s ≤ 9000 ∧
  ∀ p, H p = none → Q (.ref p) (upd H p (.tup [.int (Rat.divInt a b).num, .int ((Rat.divInt a b).den : Int)]))
section
variable {P : Program} {w : World} {K : PySem.W.Frag} {mg : Str → Option Value} {base : Heap} {C0 C1 C2 C3 : Addr}
theorem sc7 : FnScope ["value"] ["value"] (defScope (top 7)) := ⟨rfl, rfl, rfl, by decide +kernel, rfl, by decide +kernel, by decide +kernel⟩
theorem g_is_integer (T : Txt K mg C0 C1 C2 C3) : Gf P w K mg base 1 "is_integer" spIsInt := by
  refine gf_of T.dis_integer sc7 (fun vs H Q E h => ?_) (fun _ _ _ _ _ _ us hl => match us, hl with | [_], _ => rfl) fun f cdv A outer s H vs Q E hr h => ?_
  · obtain ⟨n, rfl, _⟩ := h
    rfl
  · obtain ⟨n, rfl, k⟩ := h
    refine ⟨_, pss_one (ps_ret (pe_and (pe_callB call_isi rfl T.fisinstance boot_isinstance (pa_cons (pv 0) (pa_cons (pe_bltn rfl T.fint boot_int (v := .ty "int") rfl) pa_nil)))
      (pe_one (pe_not (pe_callB call_isi rfl T.fisinstance boot_isinstance (pa_cons (pv 0) (pa_cons (pe_bltn rfl T.fbool boot_bool (v := .ty "bool") rfl) pa_nil))))))), ?_⟩
    refine ⟨_, rfl, _, _, _, _, true, rfl, .ty _, .base (.int n), kit_ty (by decide +kernel), true, rfl, iteT ?_⟩
    exact ⟨_, rfl, _, _, _, _, false, rfl, .ty _, .base (.int n), kit_ty (by decide +kernel), false, rfl, k⟩
theorem sc8 : FnScope ["total", "value"] ["total", "value"] (defScope (top 8)) := ⟨rfl, rfl, rfl, by decide +kernel, rfl, by decide +kernel, by decide +kernel⟩
theorem g_is_index (T : Txt K mg C0 C1 C2 C3) : Gf P w K mg base 2 "is_index" spIsIdx := by
  refine gf_of T.dis_index sc8 (fun vs H Q E h => ?_) (fun _ _ _ _ _ _ us hl => match us, hl with | [_, _], _ => rfl) fun f cdv A outer s H vs Q E hr h => ?_
  · obtain ⟨n, m, rfl, _⟩ := h
    rfl
  · obtain ⟨t, v, rfl, k⟩ := h
    refine ⟨_, pss_one (ps_ret (pe_and (pe_g (g_is_integer T) hr rfl (pa_cons (pv 1) pa_nil)) (pe_one (pe_chain op_le op_lt pe_int (pv 1) (pv 0))))), ?_⟩
    refine ⟨_, rfl, v, rfl, true, rfl, iteT ?_⟩
    refine ⟨_, rfl, _, _, rfl, rfl, _, rfl, ?_⟩
    by_cases h0 : 0 ≤ v
    · rw [decide_eq_true h0]
      refine iteT ⟨_, rfl, _, _, rfl, rfl, ?_⟩
      have e : decide (0 ≤ v ∧ v < t) = decide (v < t) := by simp [h0]
      rw [e] at k
      exact k
    · rw [decide_eq_false h0]
      refine iteF ?_
      have e : decide (0 ≤ v ∧ v < t) = false := by simp [h0]
      rw [e] at k
      exact k
theorem sc17 : FnScope ["one", "other"] ["one", "other"] (defScope (top 17)) := ⟨rfl, rfl, rfl, by decide +kernel, rfl, by decide +kernel, by decide +kernel⟩
theorem gcd_turn (a b : Int) (ha : 0 ≤ a) (hb : 0 < b) : Int.gcd b (a % b) = Int.gcd a b := by
  obtain ⟨x, rfl⟩ := Int.eq_ofNat_of_zero_le ha
  obtain ⟨y, rfl⟩ := Int.eq_ofNat_of_zero_le (show 0 ≤ b by omega)
  rw [← Int.natCast_emod]
  unfold Int.gcd
  rw [Int.natAbs_natCast, Int.natAbs_natCast, Int.natAbs_natCast, Nat.gcd_comm x y, Nat.gcd_rec y x, Nat.gcd_comm]
theorem g_gcd (T : Txt K mg C0 C1 C2 C3) : Gf P w K mg base 1 "common_divisor" spGcd := by
  refine gf_of T.dcommon_divisor sc17 (fun vs H Q E h => ?_) (fun _ _ _ _ _ _ us hl => match us, hl with | [_, _], _ => rfl) fun f cdv A outer s H vs Q E hr h => ?_
  · obtain ⟨a, b, rfl, _⟩ := h
    rfl
  · obtain ⟨a, b, rfl, ha, hb, k⟩ := h
    refine ⟨_, pss_cons (ps_while PassesOwn.never (pt_cmpR op_gt (pv 1) pe_int (nomark _)) (pss_one (ps_par (i := 0) (j := 1) rfl sc17.nd rfl rfl (by decide) rfl rfl
      (pa_cons (pv 1) (pa_cons (pe_op op_mod (pe_callTy call_int1 rfl T.fint boot_int (pa_cons (pv 0) pa_nil)) (pv 1)) pa_nil)) (by rfl)))) (pss_one (ps_ret (pv 0))), ?_⟩
    refine while_by (fun σ H' => H' = H ∧ ∃ x y : Int, σ = [some (.int x), some (.int y)] ∧ 0 ≤ x ∧ 0 ≤ y ∧ Int.gcd x y = Int.gcd a b) (fun σ _ => match σ with
      | [_, some (.int y)] => y.toNat
      | _ => 0) ⟨rfl, a, b, rfl, ha, hb, rfl⟩ ?_ ?_
    · rintro σ H' ⟨rfl, x, y, rfl, hx, hy, hg⟩
      refine ⟨_, rfl, _, _, rfl, rfl, _, rfl, ?_⟩
      by_cases h0 : 0 < y
      · rw [decide_eq_true h0]
        refine iteT ⟨_, rfl, _, rfl, .inl ⟨_, rfl, _, rfl, _, _, rfl, rfl, h0, ?_⟩⟩
        refine ⟨_, _, rfl, ⟨rfl, y, x % y, rfl, hy, Int.emod_nonneg _ (by omega), ?_⟩, ?_⟩
        · rw [gcd_turn x y hx h0]
          exact hg
        · show (x % y).toNat < y.toNat
          have := Int.emod_lt_of_pos x h0
          have := Int.emod_nonneg x (show y ≠ 0 by omega)
          omega
      · rw [decide_eq_false h0]
        refine iteF ⟨_, rfl, ?_⟩
        have e : y = 0 := by omega
        subst e
        rw [Int.gcd_zero] at hg
        have e2 : x = (Int.gcd a b : Int) := by omega
        rw [e2]
        exact k
    · intro σ H' Q1 Q2 hm ⟨v, h1, i, j, h2, h3, b', h4, h5⟩
      exact ⟨v, h1, i, j, h2, h3, b', h4, hm _ _ h5⟩
theorem sc18 : FnScope ["top", "bottom", "divisor"] ["top", "bottom"] (defScope (top 18)) := ⟨rfl, rfl, rfl, by decide +kernel, rfl, by decide +kernel, by decide +kernel⟩
theorem g_reduced (T : Txt K mg C0 C1 C2 C3) : Gf P w K mg base 2 "reduced" spRed := by
  refine gf_of T.dreduced sc18 (fun vs H Q E h => ?_) (fun _ _ _ _ _ _ us hl => match us, hl with | [_, _], _ => rfl) fun f cdv A outer s H vs Q E hr h => ?_
  · obtain ⟨a, b, s, rfl, _⟩ := h
    rfl
  · obtain ⟨a, b, z, rfl, ha, hb, h1, h2, hz, k⟩ := h
    have hg : 0 < Int.gcd a b := Int.gcd_pos_of_ne_zero_left _ (by omega)
    have hgl : (Int.gcd a b : Int) ≤ a := Int.le_of_dvd ha (Int.gcd_dvd_left ..)
    have hz0 : 0 < z := by
      rcases Nat.eq_zero_or_pos z with e | e
      · rw [e] at h1
        simp at h1
        omega
      · exact e
    have hd : CDivW a (Int.gcd a b : Int) := wide_div (by omega) (wide_le (by omega) hgl h1) hz0 hz
    have hd2 : CDivW b (Int.gcd a b : Int) := wide_div (by omega) (wide_le (by omega) hgl h1) hz0 hz
    refine ⟨_, pss_cons (ps_set (i := 2) sc18.nd rfl (Or.inl rfl) (pe_g (g_gcd T) hr rfl (pa_cons (pv 0) (pa_cons (pv 1) pa_nil))))
      (pss_one (ps_ret (pe_tup (pa_cons (pe_op op_fdivW (pv 0) (pv 2)) (pa_cons (pe_op op_fdivW (pv 1) (pv 2)) pa_nil))))), ?_⟩
    refine ⟨_, rfl, _, rfl, a, b, rfl, by omega, by omega, ?_⟩
    refine ⟨_, rfl, _, rfl, _, _, rfl, rfl, hd, _, rfl, _, rfl, _, _, rfl, rfl, hd2, (by show 2 ≤ sizeLine; decide), fun p hp => ?_⟩
    have z := k p hp
    rw [qd_num hb, qd_den hb] at z
    exact z
end
end Mo

set_option Elab.async false
set_option linter.all false
set_option maxRecDepth 100000
set_option maxHeartbeats 4000000
namespace Mo
open PySem PySem.Spec PyProof.Rows L2
/-! ### is_fraction, are_indices, _law_lowest -/
def spFrac : Sp := fun vs H Q _ => ∃ p a b, vs = [.ref p] ∧ H p = some (.tup [.int a, .int b]) ∧ 0 < a ∧ 0 < b ∧ Int.gcd a b = 1 ∧ ∀ H', Same H H' → Q (.bl true) H'
def asc : List Int → Bool
  | a :: b :: r => decide (a < b) && asc (b :: r)
  | _ => true
def spInds : Sp := fun vs H Q _ => ∃ n p ns, vs = [.int n, .ref p] ∧ H p = some (.tup (ns.map V.int)) ∧ ns.length ≤ 100 ∧ (∀ x ∈ ns, 0 ≤ x ∧ x < n) ∧ asc ns = true ∧ ∀ H', Same H H' → Q (.bl true) H'
def spLow : Sp := fun vs H Q _ => ∃ a b s, vs = [.int a, .int b] ∧ 0 ≤ a ∧ 0 < b ∧ a.natAbs < 2 ^ s ∧ b.natAbs < 2 ^ s ∧ s ≤ 9000 ∧
  ∀ p, H p = none → Q (.ref p) (upd H p (.tup [.int (Rat.divInt a b).num, .int ((Rat.divInt a b).den : Int)]))
theorem repl_true (n : Nat) : (List.replicate n true).all id = true := by
  induction n with
  | zero => rfl
  | succ n ih => rw [List.replicate_succ, List.all_cons, ih]; rfl
theorem repl_next (n : Nat) : (List.replicate n true).map V.bl ++ [V.bl true] = (List.replicate (n + 1) true).map V.bl := by
  rw [List.replicate_succ', List.map_append]
  rfl
theorem len_rep (n : Nat) : ((List.replicate n true).map V.bl).length = n := by rw [List.length_map, List.length_replicate]
theorem asc_at : ∀ {ns : List Int} {i : Nat} {x y : Int}, asc ns = true → ns[i]? = some x → ns[i + 1]? = some y → x < y
  | a :: b :: r, 0, x, y, h, hx, hy => by
    have h := (He.ba (show (decide (a < b) && asc (b :: r)) = true from h)).1
    have e1 : a = x := Option.some.inj hx
    have e2 : b = y := Option.some.inj hy
    have := of_decide_eq_true h
    omega
  | a :: b :: r, i + 1, x, y, h, hx, hy => asc_at (i := i) (He.ba (show (decide (a < b) && asc (b :: r)) = true from h)).2 hx hy
  | [a], i, x, y, _, _, hy => by simp at hy
  | [], i, x, y, _, _, hy => by simp at hy
theorem map_at {α β : Type} {f : α → β} {l : List α} {i : Nat} {y : β} (h : (l.map f)[i]? = some y) : ∃ x, l[i]? = some x ∧ y = f x := by
  rw [List.getElem?_map] at h
  cases e : l[i]? with
  | none =>
    rw [e] at h
    cases h
  | some x =>
    rw [e] at h
    exact ⟨x, rfl, (Option.some.inj h).symm⟩
section
variable {P : Program} {w : World} {K : PySem.W.Frag} {mg : Str → Option Value} {base : Heap} {C0 C1 C2 C3 : Addr}
theorem sc19 : FnScope ["value", "one"] ["value"] (defScope (top 19)) := ⟨rfl, rfl, rfl, by decide +kernel, rfl, by decide +kernel, by decide +kernel⟩
theorem g_fraction (T : Txt K mg C0 C1 C2 C3) : Gf P w K mg base 2 "is_fraction" spFrac := by
  refine gf_of T.dis_fraction sc19 (fun vs H Q E h => ?_) (fun _ _ _ _ _ _ us hl => match us, hl with | [_], _ => rfl) fun f cdv A outer s H vs Q E hr h => ?_
  · obtain ⟨p, a, b, rfl, _⟩ := h
    rfl
  · obtain ⟨p, a, b, rfl, hp, ha, hb, hg, k⟩ := h
    refine ⟨_, pss_cons (ps_if (PW.pt (pw_or (pt_not (pt_val (pe_callB call_isi rfl T.fisinstance boot_isinstance (pa_cons (pv 0) (pa_cons (pe_bltn rfl T.ftuple boot_tuple (v := .ty "tuple") rfl) pa_nil)))))
        (pw_or (pt_cmpR op_ne (pe_callB call_len_seq rfl T.flen PySem.boot_len (pa_cons (pv 0) pa_nil)) pe_int (nomark _))
        (pw_or1 (pt_not (pt_val (pe_callB (cr_all rfl) rfl T.fall (by decide +kernel) (pa_cons
          (pe_lc (own := [("one", 1)]) (g := gName 1) (tt := tYes) rfl sc19.nd (pi_tup (pv 0)) (blkOk_by (own := [("one", 1)]) (N := ["value", "one"]) (sc := defScope (top 19)) (by decide +kernel))
            (fun _ _ _ _ _ => pg_name (i := 1) sc19.nd rfl (Or.inl rfl)) (fun _ _ _ _ _ => pts_nil)
            (fun _ _ _ _ _ => pe_and (pe_g (g_is_integer T) hr rfl (pa_cons (pv 1) pa_nil)) (pe_one (pe_cmpR op_gt (pv 1) pe_int (nomark _))))) pa_nil))))))))
        (pss_one (ps_ret pe_bl)) pss_nil)
      (pss_one (ps_ret (pe_cmpR op_eq (pe_g (g_gcd T) hr rfl (pa_cons (pe_ix ix_tup (pv 0) pe_int (fun _ _ => rfl)) (pa_cons (pe_ix ix_tup (pv 0) pe_int (fun _ _ => rfl)) pa_nil))) pe_int (nomark _)))), ?_⟩
    refine ⟨_, rfl, _, _, _, _, true, rfl, .ty _, .base (.tup hp), kit_ty (by decide +kernel), true, rfl, iteF ?_⟩
    refine ⟨_, rfl, p, _, rfl, .inr (SqT.of hp), rfl, _, rfl, iteF ?_⟩
    refine ⟨_, rfl, p, rfl, ⟨_, SqT.of hp⟩, fun D hD => lc_tup (K := K) (a := p) (xs := [V.int a, V.int b]) (fun i H2 => Same H H2 ∧ H2 D = some (.lst ((List.replicate i true).map V.bl))) ⟨Same.new hD, upd_same⟩
      (fun i H2 _ ⟨s2, _⟩ => SqT.of (s2 _ _ hp)) ?_ ?_⟩
    · rintro i x H2 hx ⟨s2, hl⟩
      obtain ⟨n, rfl, hn⟩ : ∃ n : Int, x = V.int n ∧ 0 < n := by
        match i, hx with
        | 0, e => exact ⟨a, (Option.some.inj e).symm, ha⟩
        | 1, e => exact ⟨b, (Option.some.inj e).symm, hb⟩
      have hi : i < 2 := (List.getElem?_eq_some_iff.mp hx).1
      refine ⟨rfl, _, rfl, n, rfl, true, rfl, iteT ⟨_, rfl, _, _, rfl, rfl, _, hl, ?_, ?_⟩⟩
      · rw [len_rep]
        exact small1000 (by omega)
      · have e : decide ((0 : Int) < n) = true := decide_eq_true hn
        dsimp only
        rw [e, repl_next]
        exact ⟨fun c o q => by rw [upd_ne (fun z => by rw [z, hD] at q; cases q)]; exact s2 _ _ q, upd_same⟩
    · rintro H2 ⟨s2, hl⟩
      refine ⟨_, _, rfl, SqL.of hl, _, rfl, ?_⟩
      rw [repl_true]
      refine iteF ?_
      have hp2 := s2 _ _ hp
      refine ⟨_, rfl, p, _, _, _, rfl, rfl, SqT.of hp2, atI_nat rfl, _, rfl, p, _, _, _, rfl, rfl, SqT.of hp2, atI_nat rfl, a, b, rfl, by omega, by omega, rfl, ?_⟩
      rw [hg]
      exact k _ s2
theorem sc24 : FnScope ["total", "value", "index", "one", "other"] ["total", "value"] (defScope (top 24)) := ⟨rfl, rfl, rfl, by decide +kernel, rfl, by decide +kernel, by decide +kernel⟩
theorem g_indices (T : Txt K mg C0 C1 C2 C3) : Gf P w K mg base 3 "are_indices" spInds := by
  refine gf_of T.dare_indices sc24 (fun vs H Q E h => ?_) (fun _ _ _ _ _ _ us hl => match us, hl with | [_, _], _ => rfl) fun f cdv A outer s H vs Q E hr h => ?_
  · obtain ⟨n, p, ns, rfl, _⟩ := h
    rfl
  · obtain ⟨n, p, ns, rfl, hp, hlen, hin, hasc, k⟩ := h
    refine ⟨_, pss_cons (ps_if (PW.pt (pw_or (pt_not (pt_val (pe_callB call_isi rfl T.fisinstance boot_isinstance (pa_cons (pv 1) (pa_cons (pe_bltn rfl T.ftuple boot_tuple (v := .ty "tuple") rfl) pa_nil)))))
        (pw_or1 (pt_not (pt_val (pe_callB (cr_all rfl) rfl T.fall (by decide +kernel) (pa_cons
          (pe_lc (own := [("index", 2)]) (g := gName 2) (tt := tYes) rfl sc24.nd (pi_tup (pv 1)) (blkOk_by (own := [("index", 2)]) (N := ["total", "value", "index", "one", "other"]) (sc := defScope (top 24)) (by decide +kernel))
            (fun _ _ _ _ _ => pg_name (i := 2) sc24.nd rfl (Or.inl rfl)) (fun _ _ _ _ _ => pts_nil)
            (fun _ _ _ _ _ => pe_g (g_is_index T) hr rfl (pa_cons (pv 0) (pa_cons (pv 2) pa_nil)))) pa_nil)))))))
        (pss_one (ps_ret pe_bl)) pss_nil)
      (pss_one (ps_ret (pe_callB (cr_all rfl) rfl T.fall (by decide +kernel) (pa_cons
          (pe_lc (own := [("one", 3), ("other", 4)]) (g := gTup K 2 (gCons (gName 3) (gCons (gName 4) gNil))) (tt := tYes) rfl sc24.nd (RZ.pi_zipA rfl T.fzip (pa_cons (pv 1) (pa_cons (pe_slice sl_tupA (pv 1) (po_some pe_int) po_none) pa_nil)))
            (blkOk_by (own := [("one", 3), ("other", 4)]) (N := ["total", "value", "index", "one", "other"]) (sc := defScope (top 24)) (by decide +kernel))
            (fun _ _ _ _ _ => pg_tup rfl (pgs_cons (pg_name (i := 3) sc24.nd rfl (Or.inl rfl)) (pgs_cons (pg_name (i := 4) sc24.nd rfl (Or.inl rfl)) pgs_nil))) (fun _ _ _ _ _ => pts_nil)
            (fun _ _ _ _ _ => pe_cmpR op_lt (pv 3) (pv 4) (nomark _))) pa_nil)))), ?_⟩
    refine ⟨_, rfl, _, _, _, _, true, rfl, .ty _, .base (.tup hp), kit_ty (by decide +kernel), true, rfl, iteF ?_⟩
    refine ⟨_, rfl, p, rfl, ⟨_, SqT.of hp⟩, fun D hD => lc_tup (K := K) (a := p) (xs := ns.map V.int) (fun i H2 => Same H H2 ∧ H2 D = some (.lst ((List.replicate i true).map V.bl))) ⟨Same.new hD, upd_same⟩
      (fun i H2 _ ⟨s2, _⟩ => SqT.of (s2 _ _ hp)) ?_ ?_⟩
    · rintro i x H2 hx ⟨s2, hl⟩
      obtain ⟨m, hm, rfl⟩ := map_at hx
      have hi : i < ns.length := (List.getElem?_eq_some_iff.mp hm).1
      have hr1 := hin m (List.mem_of_getElem? hm)
      refine ⟨rfl, _, rfl, _, rfl, _, _, rfl, _, hl, ?_, ?_⟩
      · rw [len_rep]
        exact small1000 (by omega)
      · rw [decide_eq_true hr1, repl_next]
        exact ⟨fun c o q => by rw [upd_ne (fun z => by rw [z, hD] at q; cases q)]; exact s2 _ _ q, upd_same⟩
    · rintro H2 ⟨s2, hl⟩
      refine ⟨_, _, rfl, SqL.of hl, _, rfl, ?_⟩
      rw [repl_true]
      refine iteF ?_
      have hp2 := s2 _ _ hp
      -- zip(value, value[1:])
      have go : ∀ (q : Addr) (H3 : Hp), Same H H3 → H3 q = some (.tup ((ns.drop 1).map V.int)) → ∀ D, H3 D = none → ∃ W : Nat → Nat → Hp → Prop, (∃ m, W 0 m (upd H3 D (.lst []))) ∧ ∀ i m H, W i m H →
          ((RZ.ItzT K p q).stop i H ∧ (fun x H' => rAll K [x] H' Q) (V.ref D) H) ∨ ((RZ.ItzT K p q).go i H ∧ ∃ Nx : Hp → Prop, (∀ H', Nx H' → ∃ m', m' < m ∧ W (i + 1) m' H') ∧ ∀ x H', (RZ.ItzT K p q).yld i H x H' →
            gTup K 2 (gCons (gName 3) (gCons (gName 4) gNil)) x (wipe [some (V.int n), some (V.ref p), none, none, none] [3, 4]) H' fun σ2 H2 => wipe σ2 [3, 4] = wipe [some (V.int n), some (V.ref p), none, none, none] [3, 4] ∧ tYes σ2 H2 fun b H3 =>
              if b = true then tOp (rI0 fun i j => .bl (decide (i < j))) (tVar 3) (tVar 4) σ2 H3 fun y H4 => ∃ acc, H4 D = some (.lst acc) ∧ acc.length < sizeLine ∧ Nx (upd H4 D (.lst (acc ++ [y]))) else Nx H3) := by
        intro q H3 s3 hq D2 hD2
        refine lc_it (walk_zipT (K := K) (a := p) (b := q) (xs := ns.map V.int) (ys := (ns.drop 1).map V.int) (n := ns.length - 1) (by rw [List.length_map, List.length_map, List.length_drop]; omega))
          (fun i H4 => Same H3 H4 ∧ H4 D2 = some (.lst ((List.replicate i true).map V.bl))) ⟨Same.new hD2, upd_same⟩ (fun i H4 _ ⟨s4, _⟩ => ⟨SqT.of (s4 _ _ (s3 _ _ hp)), SqT.of (s4 _ _ hq)⟩) ?_ ?_
        · rintro i x H4 H5 hi ⟨s4, hl4⟩ ⟨Tn, x1, x2, rfl, hT, rfl, e1, e2⟩
          obtain ⟨m1, hm1, rfl⟩ := map_at e1
          obtain ⟨m2, hm2, rfl⟩ := map_at e2
          rw [List.getElem?_drop, Nat.add_comm] at hm2
          have hlt : m1 < m2 := asc_at hasc hm1 hm2
          have hlt2 : i < ns.length := (List.getElem?_eq_some_iff.mp hm1).1
          have ne : D2 ≠ Tn := ne_of_none hl4 hT
          refine ⟨_, _, rfl, SqT.of upd_same, rfl, _, _, rfl, _, _, rfl, rfl, rfl, _, rfl, _, rfl, _, _, rfl, rfl, _, by rw [upd_ne ne]; exact hl4, ?_, ?_⟩
          · rw [len_rep]
            exact small1000 (by omega)
          · dsimp only
            rw [decide_eq_true hlt, repl_next]
            exact ⟨fun c o q => by rw [upd_ne (fun z => by rw [z, hD2] at q; cases q), upd_ne (ne_of_none (s4 _ _ q) hT)]; exact s4 _ _ q, upd_same⟩
        · rintro H4 ⟨s4, hl4⟩
          refine ⟨_, _, rfl, SqL.of hl4, ?_⟩
          rw [repl_true]
          exact k _ (s3.trans s4)
      refine ⟨_, rfl, _, rfl, 1, rfl, p, _, rfl, SqT.of hp2, fun hw => ?_, fun hw q hq => ?_⟩
      · -- the whole: no item
        have e : ns = [] := by
          have h1 := hw.1
          rw [List.length_map] at h1
          have h2 : min 1 ns.length = 0 := by
            have := HT.sIx_nat ns.length 0 1
            rw [← this]
            exact h1
          exact List.eq_nil_of_length_eq_zero (by omega)
        subst e
        exact ⟨p, p, _, _, rfl, .inr ⟨SqT.of hp2, SqT.of hp2, fun D hD => go p H2 s2 hp2 D hD⟩⟩
      · have ec : cutV (ns.map V.int) (some 1) none = (ns.drop 1).map V.int := by
          unfold cutV
          rw [List.length_map]
          show ((ns.map V.int).drop (HT.sIx ns.length 0 (some ((1 : Nat) : Int)))).take (HT.sIx ns.length ns.length none - HT.sIx ns.length 0 (some ((1 : Nat) : Int))) = _
          rw [HT.sIx_nat, HT.sIx_none, List.take_of_length_le (by rw [List.length_drop, List.length_map]; omega)]
          cases ns with
          | nil => rfl
          | cons a r =>
            rw [show min 1 (a :: r).length = 1 from Nat.min_eq_left (by simp), List.map_drop]
        have npq : p ≠ q := ne_of_none hp2 hq
        refine ⟨p, q, _, _, rfl, .inr ⟨SqT.of (by rw [upd_ne npq]; exact hp2), SqT.of upd_same, fun D hD => go q _ (Same.upd s2 hq) (by rw [upd_same, ec]) D hD⟩⟩
theorem sc31 : FnScope ["_law_top", "_law_bottom", "_law_one", "_law_other"] ["_law_top", "_law_bottom"] (defScope (top 31)) := ⟨rfl, rfl, rfl, by decide +kernel, rfl, by decide +kernel, by decide +kernel⟩
theorem g_lowest (T : Txt K mg C0 C1 C2 C3) : Gf P w K mg base 1 "_law_lowest" spLow := by
  refine gf_of T.d_law_lowest sc31 (fun vs H Q E h => ?_) (fun _ _ _ _ _ _ us hl => match us, hl with | [_, _], _ => rfl) fun f cdv A outer s H vs Q E hr h => ?_
  · obtain ⟨a, b, s, rfl, _⟩ := h
    rfl
  · obtain ⟨a, b, z, rfl, ha, hb, h1, h2, hz, k⟩ := h
    have hg : 0 < Int.gcd a b := Int.gcd_pos_of_ne_zero_right _ (by omega)
    have hgl : (Int.gcd a b : Int) ≤ b := Int.le_of_dvd hb (Int.gcd_dvd_right ..)
    have hz0 : 0 < z := by
      rcases Nat.eq_zero_or_pos z with e | e
      · rw [e] at h2
        simp at h2
        omega
      · exact e
    have hd : ∀ x : Int, CDivW x (Int.gcd a b : Int) := fun x => wide_div (by omega) (wide_le (by omega) hgl h2) hz0 hz
    refine ⟨_, pss_cons (ps_par (i := 2) (j := 3) rfl sc31.nd rfl rfl (by decide) rfl rfl (pa_cons (pv 0) (pa_cons (pv 1) pa_nil)) (by rfl))
      (pss_cons (ps_while PassesOwn.never (pt_cmpR op_gt (pv 3) pe_int (nomark _)) (pss_one (ps_par (i := 2) (j := 3) rfl sc31.nd rfl rfl (by decide) rfl rfl
      (pa_cons (pv 3) (pa_cons (pe_op op_mod (pe_callTy call_int1 rfl T.fint boot_int (pa_cons (pv 2) pa_nil)) (pv 3)) pa_nil)) (by rfl))))
      (pss_one (ps_ret (pe_tup (pa_cons (pe_op op_fdivW (pv 0) (pv 2)) (pa_cons (pe_op op_fdivW (pv 1) (pv 2)) pa_nil)))))), ?_⟩
    refine ⟨_, rfl, _, rfl, _, _, rfl, ?_⟩
    refine while_by (fun σ H' => H' = H ∧ ∃ x y : Int, σ = [some (.int a), some (.int b), some (.int x), some (.int y)] ∧ 0 ≤ x ∧ 0 ≤ y ∧ Int.gcd x y = Int.gcd a b) (fun σ _ => match σ with
      | [_, _, _, some (.int y)] => y.toNat
      | _ => 0) ⟨rfl, a, b, rfl, ha, by omega, rfl⟩ ?_ ?_
    · rintro σ H' ⟨rfl, x, y, rfl, hx, hy, hgg⟩
      refine ⟨_, rfl, _, _, rfl, rfl, _, rfl, ?_⟩
      by_cases h0 : 0 < y
      · rw [decide_eq_true h0]
        refine iteT ⟨_, rfl, _, rfl, .inl ⟨_, rfl, _, rfl, _, _, rfl, rfl, h0, ?_⟩⟩
        refine ⟨_, _, rfl, ⟨rfl, y, x % y, rfl, hy, Int.emod_nonneg _ (by omega), ?_⟩, ?_⟩
        · rw [gcd_turn x y hx h0]
          exact hgg
        · show (x % y).toNat < y.toNat
          have := Int.emod_lt_of_pos x h0
          have := Int.emod_nonneg x (show y ≠ 0 by omega)
          omega
      · rw [decide_eq_false h0]
        have e : y = 0 := by omega
        subst e
        rw [Int.gcd_zero] at hgg
        have e2 : x = (Int.gcd a b : Int) := by omega
        subst e2
        refine iteF ⟨_, rfl, _, rfl, _, _, rfl, rfl, hd a, _, rfl, _, rfl, _, _, rfl, rfl, hd b, (by show 2 ≤ sizeLine; decide), fun p hp => ?_⟩
        have z := k p hp
        rw [qd_num hb, qd_den hb] at z
        exact z
    · intro σ H' Q1 Q2 hm ⟨v, h1, i, j, h2, h3, b', h4, h5⟩
      exact ⟨v, h1, i, j, h2, h3, b', h4, hm _ _ h5⟩
end
end Mo

set_option Elab.async false
set_option linter.all false
set_option maxRecDepth 100000
set_option maxHeartbeats 4000000
namespace Mo
open PySem PySem.Spec PyProof.Rows L2
/-! ### dice -/
def DiceAt (H : Hp) (d : Addr) : Prop := ∃ a b c : Int, H d = some (.lst [.int a, .int b, .int c])
/-- the dice at d were pulled (any number of times), all else stands -/
def DStep (d : Addr) (H H' : Hp) : Prop := (∀ b o, H b = some o → b ≠ d → H' b = some o) ∧ DiceAt H' d
theorem DStep.refl {d : Addr} {H : Hp} (h : DiceAt H d) : DStep d H H := ⟨fun _ _ e _ => e, h⟩
theorem DStep.trans {d : Addr} {H H1 H2 : Hp} (a : DStep d H H1) (b : DStep d H1 H2) : DStep d H H2 := ⟨fun c o e n => b.1 c o (a.1 c o e n) n, b.2⟩
theorem DStep.same {d : Addr} {H H1 H2 : Hp} (a : DStep d H H1) (b : Same H1 H2) : DStep d H H2 := ⟨fun c o e n => b c o (a.1 c o e n), by
  obtain ⟨x, y, z, e⟩ := a.2
  exact ⟨x, y, z, b _ _ e⟩⟩
theorem DStep.of {d : Addr} {H H1 : Hp} (h : DiceAt H d) (b : Same H H1) : DStep d H H1 := DStep.same (DStep.refl h) b
theorem DStep.free {d : Addr} {H H1 : Hp} (a : DStep d H H1) (h0 : DiceAt H d) {p : Addr} (h : H1 p = none) : H p = none := by
  cases e : H p with
  | none => rfl
  | some o =>
    have n : p ≠ d := fun z => by
      obtain ⟨x, y, u, q⟩ := a.2
      rw [z, q] at h
      cases h
    rw [a.1 p o e n] at h
    cases h
theorem DStep.ne {d p : Addr} {H : Hp} {o : HO} (h : DiceAt H d) (e : H p = some o) (n : ∀ xs, o ≠ .lst xs) : p ≠ d := fun z => by
  obtain ⟨x, y, u, q⟩ := h
  rw [z, q] at e
  exact n _ (Option.some.inj e).symm
theorem AmV.step {d : Addr} {H H' : Hp} {v : V} {a : Am} (s : DStep d H H') (h0 : DiceAt H d) (h : AmV H v a) : AmV H' v a := by
  cases a with
  | i n => exact h
  | t ns =>
    obtain ⟨p, e, hp⟩ := h
    exact ⟨p, e, s.1 _ _ hp (DStep.ne h0 hp (fun xs q => by cases q))⟩
theorem ScAt.step {d : Addr} {D : Kd} {H H' : Hp} {p : Addr} (s : DStep d H H') (h0 : DiceAt H d) (h : ScAt D H p) : ScAt D H' p := by
  obtain ⟨dx, z, o, h1, h2⟩ := h
  exact ⟨dx, z, o, s.1 _ _ h1 (DStep.ne h0 h1 (fun xs q => by cases q)), h2.step s h0⟩
theorem Ams.step {d : Addr} {G : Grp} {H H' : Hp} (s : DStep d H H') (h0 : DiceAt H d) : ∀ {vs : List V} {l : List G.α}, Ams G H vs l → Ams G H' vs l
  | _, _, .nil => .nil
  | _, _, .cons h r => .cons (h.step s h0) (Ams.step s h0 r)
def spDice (K : PySem.W.Frag) : Sp := fun vs H Q _ => ∃ (a : Addr) (ns : List Int) (i : Int), vs = [.ref a, .int i] ∧ SqL K H a (ns.map V.int) ∧ ns.length ≤ 63 ∧ 0 ≤ i ∧ i < 63 ∧ ∀ p H', H p = none → Same H H' → DiceAt H' p → Q (.ref p) H'
def spPull : Sp := fun vs H Q _ => ∃ d t, vs = [.ref d, .int t] ∧ DiceAt H d ∧ 0 < t ∧ t.natAbs < 2 ^ 200 ∧ ∀ r H', 0 ≤ r → r < t → DStep d H H' → Q (.int r) H'
section
variable {P : Program} {w : World} {K : PySem.W.Frag} {mg : Str → Option Value} {base : Heap} {C0 C1 C2 C3 : Addr}
theorem sc27 : FnScope ["_law_script", "_law_at", "_law_cell", "_law_great", "_law_mixed"] ["_law_script", "_law_at"] (defScope (top 27)) := ⟨rfl, rfl, rfl, by decide +kernel, rfl, by decide +kernel, by decide +kernel⟩
theorem g_dice (T : Txt K mg C0 C1 C2 C3) : Gf P w K mg base 1 "_law_dice" (spDice K) := by
  refine gf_of T.d_law_dice sc27 (fun vs H Q E h => ?_) (fun _ _ _ _ _ _ us hl => match us, hl with | [_, _], _ => rfl) fun f cdv A outer s H vs Q E hr h => ?_
  · obtain ⟨a, ns, i, rfl, _⟩ := h
    rfl
  · obtain ⟨a, ns, i, rfl, hS, hlen, h0, h63, k⟩ := h
    refine ⟨_, pss_cons (ps_set (i := 2) sc27.nd rfl (Or.inl rfl) (pe_op op_add (pe_op op_mul pe_int (pv 1)) pe_int))
      (Evl.pss_cut (ps_if (pt_cmpR op_lt (pv 1) (pe_callB call_len_seq rfl T.flen PySem.boot_len (pa_cons (pv 0) pa_nil)) (nomark _)) (pss_one (ps_set (i := 2) sc27.nd rfl (Or.inl rfl) (pe_ix ix_list (pv 0) (pv 1) (fun _ _ => rfl)))) pss_nil)
      (pss_cons (ps_set (i := 3) sc27.nd rfl (Or.inl rfl) (pe_op op_mod (pe_callTy call_int1 rfl T.fint boot_int (pa_cons (pe_callB call_abs rfl T.fabs boot_abs (pa_cons (pv 2) pa_nil)) pa_nil)) (pe_op op_powW (pe_op op_powW pe_int pe_int) pe_int)))
      (pss_cons (ps_set (i := 4) sc27.nd rfl (Or.inl rfl) (pe_op op_add (pe_op op_add (pe_op op_add (pe_op op_mul (pe_op op_mod (pe_callTy call_int1 rfl T.fint boot_int (pa_cons (pv 3) pa_nil)) pe_int) pe_int) (pe_op op_mul pe_int (pv 1)))
          (pe_op op_mul pe_int (pe_callTy call_int1 rfl T.fint boot_int (pa_cons (pe_cmpR op_lt (pv 2) pe_int (nomark _)) pa_nil)))) pe_int))
      (pss_one (ps_ret (pe_lst (pa_cons (pe_callB (call_max2 rfl) rfl T.fmax (by decide +kernel) (pa_cons pe_int (pa_cons (pe_op op_sub (pv 3) (pe_op op_pow pe_int pe_int)) pa_nil)))
          (pa_cons (pe_op op_mod (pe_callTy call_int1 rfl T.fint boot_int (pa_cons (pv 4) pa_nil)) pe_int) (pa_cons pe_int pa_nil))))))))), ?_⟩
    refine ⟨_, rfl, _, _, rfl, rfl, .inl ⟨by decide, by decide⟩, _, _, rfl, rfl, ?_⟩
    refine ⟨fun σ' H' => H' = H ∧ ∃ c : Int, σ' = [some (.ref a), some (.int i), some (.int c), none, none], ?_, ?_⟩
    · -- if at < len(script): cell = script[at]
      refine ⟨_, rfl, _, rfl, a, _, rfl, .inl hS, _, _, rfl, rfl, _, rfl, ?_⟩
      refine ite2 (fun hc => ?_) (fun _ => ⟨rfl, _, rfl⟩)
      have hc := of_decide_eq_true hc
      rw [List.length_map] at hc
      have hi : i.toNat < ns.length := by omega
      have e : atI (ns.map V.int) i = some (.int ns[i.toNat]) := by
        exact at_of (j := i.toNat) (by omega) (by rw [List.getElem?_map]; simp [hi])
      exact ⟨_, rfl, _, rfl, a, _, _, _, rfl, rfl, hS, e, rfl, _, rfl⟩
    · rintro σ' H' ⟨rfl, c, rfl⟩
      have hp60 : (Builtin.Int.intBits 10 : Int) * 60 ≤ 2 ^ 27 := by decide +kernel
      have hp12 : (Builtin.Int.intBits ((10 : Int) ^ (60 : Int).toNat) : Int) * 12 ≤ 2 ^ 27 := by decide +kernel
      have hpos : (0 : Int) < ((10 : Int) ^ (60 : Int).toNat) ^ (12 : Int).toNat := by decide +kernel
      -- great
      refine ⟨_, rfl, _, rfl, .inl ⟨_, rfl, _, _, rfl, rfl, ⟨by decide, hp60⟩, _, _, rfl, rfl, ⟨by decide, hp12⟩, _, _, rfl, rfl, hpos, ?_⟩⟩
      generalize (if c < 0 then -c else c) % ((10 : Int) ^ (60 : Int).toNat) ^ (12 : Int).toNat = g
      -- mixed
      refine ⟨_, rfl, .inl ⟨_, rfl, _, _, rfl, rfl, (by show (0 : Int) < 2147483497; decide), _, _, rfl, rfl, .inr ⟨by decide, by decide⟩, _, rfl, _, _, rfl, rfl, .inl ⟨by decide, by decide⟩, _, _, rfl, rfl,
        _, rfl, _, _, rfl, rfl, .inr ⟨_, rfl, _, _, rfl, rfl, .inl ⟨by decide, by decide⟩, _, _, rfl, rfl, _, _, rfl, rfl, ?_⟩⟩⟩
      generalize g % 2147483497 * 40014 + 1009 * i + 5 * (if decide (c < 0) = true then 1 else 0) + 29 = m
      refine ⟨_, rfl, _, _, rfl, rfl, ⟨by decide, by decide, by decide⟩, _, _, rfl, rfl, _, _, rfl, _, rfl, .inl ⟨_, rfl, _, _, rfl, rfl, (by show (0 : Int) < 2147483489; decide), (by show 3 ≤ sizeLine; decide), fun p hp => ?_⟩⟩
      exact k p _ hp (Same.new hp) ⟨_, _, _, upd_same⟩
theorem sc28 : FnScope ["_law_dice_here", "_law_total", "_law_found", "_law_one", "_law_two"] ["_law_dice_here", "_law_total"] (defScope (top 28)) := ⟨rfl, rfl, rfl, by decide +kernel, rfl, by decide +kernel, by decide +kernel⟩
theorem step_set {d : Addr} {H : Hp} {a b c : Int} (h : DiceAt H d) : DStep d H (upd H d (.lst [.int a, .int b, .int c])) := ⟨fun p o e n => by rw [upd_ne n]; exact e, a, b, c, upd_same⟩
theorem g_pull (T : Txt K mg C0 C1 C2 C3) : Gf P w K mg base 1 "_law_pull" spPull := by
  refine gf_of T.d_law_pull sc28 (fun vs H Q E h => ?_) (fun _ _ _ _ _ _ us hl => match us, hl with | [_, _], _ => rfl) fun f cdv A outer s H vs Q E hr h => ?_
  · obtain ⟨d, t, rfl, _⟩ := h
    rfl
  · obtain ⟨d, t, rfl, h0, ht, hb, k⟩ := h
    obtain ⟨a, b, c, hd⟩ := id h0
    have hdiv : ∀ x : Int, CDivW x t := fun x => wide_div ht hb (by decide) (by decide)
    refine ⟨_, pss_cons (ps_if (pt_cmpR op_gt (pe_ix ix_list (pv 0) pe_int (fun _ _ => rfl)) pe_int (nomark _))
        (pss_cons (ps_set (i := 2) sc28.nd rfl (Or.inl rfl) (pe_op op_mod (pe_callTy call_int1 rfl T.fint boot_int (pa_cons (pe_ix ix_list (pv 0) pe_int (fun _ _ => rfl)) pa_nil)) (pv 1)))
        (pss_cons (ps_asg (pe_op op_fdivW (pe_ix ix_list (pv 0) pe_int (fun _ _ => rfl)) (pv 1)) (pg_sub (pv 0) pe_int set_list)) (pss_one (ps_ret (pv 2))))) pss_nil)
      (pss_cons (ps_asg (pe_op op_add (pe_ix ix_list (pv 0) pe_int (fun _ _ => rfl)) pe_int) (pg_sub (pv 0) pe_int set_list))
      (pss_cons (ps_set (i := 3) sc28.nd rfl (Or.inl rfl) (pe_op op_mod (pe_callTy call_int1 rfl T.fint boot_int (pa_cons (pe_op op_add (pe_ix ix_list (pv 0) pe_int (fun _ _ => rfl)) (pe_op op_mul pe_int (pe_ix ix_list (pv 0) pe_int (fun _ _ => rfl)))) pa_nil)) pe_int))
      (pss_cons (ps_set (i := 4) sc28.nd rfl (Or.inl rfl) (pe_op op_mul (pe_op op_mod (pe_callTy call_int1 rfl T.fint boot_int (pa_cons (pe_op op_mul (pv 3) (pv 3)) pa_nil)) pe_int) (pv 3)))
      (pss_one (ps_ret (pe_op op_mod (pe_callTy call_int1 rfl T.fint boot_int (pa_cons (pe_op op_fdivW (pe_op op_mod (pe_callTy call_int1 rfl T.fint boot_int (pa_cons (pe_op op_add (pv 4) (pe_op op_mul pe_int (pe_ix ix_list (pv 0) pe_int (fun _ _ => rfl)))) pa_nil)) pe_int) pe_int) pa_nil)) (pv 1))))))), ?_⟩
    refine ⟨_, rfl, d, _, _, _, rfl, rfl, SqL.of hd, atI_nat rfl, _, _, rfl, rfl, _, rfl, ?_⟩
    refine ite2 (fun hc => ?_) (fun hc => ?_)
    · refine ⟨_, rfl, d, _, _, _, rfl, rfl, SqL.of hd, atI_nat rfl, .inl ⟨_, rfl, _, rfl, _, _, rfl, rfl, ht, ?_⟩⟩
      refine ⟨_, rfl, d, _, _, _, rfl, rfl, SqL.of hd, atI_nat rfl, _, rfl, _, _, rfl, rfl, hdiv a, _, rfl, d, _, _, 0, rfl, rfl, hd, rfl, _, rfl, ?_⟩
      exact k _ _ (Int.emod_nonneg _ (by omega)) (Int.emod_lt_of_pos _ ht) (step_set h0)
    · refine ⟨_, rfl, d, _, _, _, rfl, rfl, SqL.of hd, atI_nat rfl, _, _, rfl, rfl, _, rfl, d, _, _, 2, rfl, rfl, hd, rfl, ?_⟩
      have hd2 : (upd H d (.lst ([V.int a, V.int b, V.int c].set 2 (V.int (c + 1))))) d = some (.lst [.int a, .int b, .int (c + 1)]) := upd_same
      have hm : (0 : Int) < 2305843009213693951 := by decide
      refine ⟨_, rfl, d, _, _, _, rfl, rfl, SqL.of hd2, atI_nat rfl, _, rfl, d, _, _, _, rfl, rfl, SqL.of hd2, atI_nat rfl, _, _, rfl, rfl, .inl ⟨by decide, by decide⟩, _, _, rfl, rfl, .inl ⟨_, rfl, _, _, rfl, rfl, hm, ?_⟩⟩
      have u1 := Int.emod_nonneg (b + 1000133 * (c + 1)) (show (2305843009213693951 : Int) ≠ 0 by decide)
      have u2 := Int.emod_lt_of_pos (b + 1000133 * (c + 1)) hm
      generalize (b + 1000133 * (c + 1)) % 2305843009213693951 = one at u1 u2 ⊢
      refine ⟨_, rfl, _, rfl, _, _, rfl, rfl, .inl ⟨by omega, by omega⟩, .inl ⟨_, rfl, _, _, rfl, rfl, (by show (0 : Int) < 2305843009213693921; decide), _, rfl, _, _, rfl, rfl, .inr ⟨by omega, by omega⟩, ?_⟩⟩
      refine ⟨_, rfl, _, rfl, d, _, _, _, rfl, rfl, SqL.of hd2, atI_nat rfl, _, _, rfl, rfl, .inl ⟨by decide, by decide⟩, _, _, rfl, rfl, .inl ⟨_, rfl, _, _, rfl, rfl, (by show (0 : Int) < 2305843009213693907; decide), _, _, rfl, rfl, wide_div (b := 20) (by decide) (by decide) (by decide) (by decide), .inl ⟨_, rfl, _, rfl, _, _, rfl, rfl, ht, ?_⟩⟩⟩
      exact k _ _ (Int.emod_nonneg _ (by omega)) (Int.emod_lt_of_pos _ ht) (step_set h0)
end
end Mo

set_option Elab.async false
set_option linter.all false
set_option maxRecDepth 100000
set_option maxHeartbeats 4000000
namespace Mo
open PySem PySem.Spec PyProof.Rows L2
/-! ### what each scale's own methods promise -/
def spForm (D : Kd) : Sp := fun vs H Q _ => ∃ p v a, vs = [.ref p, v] ∧ ScAt D H p ∧ AmV H v (D.G.am a) ∧ ∀ H', Same H H' → Q (.bl true) H'
def spOpp (D : Kd) : Sp := fun vs H Q _ => ∃ p v a, vs = [.ref p, v] ∧ ScAt D H p ∧ AmV H v (D.G.am a) ∧ ∀ z H', Same H H' → AmV H' z (D.G.am (D.G.neg a)) → Q z H'
def spAdd (D : Kd) : Sp := fun vs H Q _ => ∃ p v u a b, vs = [.ref p, v, u] ∧ ScAt D H p ∧ AmV H v (D.G.am a) ∧ AmV H u (D.G.am b) ∧ D.G.ok 3000 a ∧ D.G.ok 3000 b ∧ ∀ z H', Same H H' → AmV H' z (D.G.am (D.G.add a b)) → Q z H'
def spBef (D : Kd) : Sp := fun vs H Q _ => ∃ p v u a b, vs = [.ref p, v, u] ∧ ScAt D H p ∧ AmV H v (D.G.am a) ∧ AmV H u (D.G.am b) ∧ D.G.ok 3000 a ∧ D.G.ok 3000 b ∧ Q (.bl (D.G.lt a b)) H
def spTot (D : Kd) : Sp := fun vs H Q _ => ∃ p t xs l s, vs = [.ref p, .ref t] ∧ ScAt D H p ∧ H t = some (.tup xs) ∧ Ams D.G H xs l ∧ (∀ x ∈ l, D.G.ok s x) ∧ l.length * s + 1 ≤ 8000 ∧ l.length ≤ 100 ∧
  ∀ z H', Same H H' → AmV H' z (D.G.am (D.G.sum l)) → Q z H'
abbrev dSum (C : Addr) : Kd := ⟨C, gSum, "sums", 1⟩
abbrev dCls (C : Addr) (k : Nat) (hk : k ≤ 4) : Kd := ⟨C, gCls k hk, "classes", k⟩
abbrev dOdd (C : Addr) : Kd := ⟨C, gOdd, "odds", 1⟩
theorem sum_ints : ∀ l : List Int, l.sum = gSum.sum l
  | [] => rfl
  | x :: r => by
    exact (List.sum_cons ..).trans ((congrArg (x + ·) (sum_ints r)).trans (Grp.sum_cons (G := gSum) x r).symm)
theorem ams_int {H : Hp} : ∀ {xs : List V} {l : List Int}, Ams gSum H xs l → xs = l.map V.int
  | _, _, .nil => rfl
  | _, _, .cons h r => by
    have e : _ = V.int _ := h
    rw [e, ams_int r]
    rfl
section
variable {P : Program} {w : World} {K : PySem.W.Frag} {mg : Str → Option Value} {base : Heap} {C0 C1 C2 C3 : Addr}
abbrev lenSelf1 {sp : Sp} (h : ∀ vs H Q E, sp vs H Q E → ∃ a b, vs = [a, b]) : ∀ vs H Q E, sp vs H Q E → vs.length = (["self", "x"] : List Str).length := fun vs H Q E z => by
  obtain ⟨a, b, rfl⟩ := h vs H Q E z
  rfl
/-! ### sums -/
theorem scS0 : FnScope ["self", "value"] ["self", "value"] (defScope (inClass (top 21) 0)) := ⟨rfl, rfl, rfl, by decide +kernel, rfl, by decide +kernel, by decide +kernel⟩
theorem m_form1 (T : Txt K mg C0 C1 C2 C3) : Mf P w K mg base 2 C1 "has_form" (spForm (dSum C1)) := by
  refine mf_of T.c1.has_form scS0 (fun vs H Q E h => ?_) (fun _ _ _ _ _ _ us hl => match us, hl with | [_, _], _ => rfl) fun f cdv A outer s H vs Q E hr h => ?_
  · obtain ⟨p, v, a, rfl, _⟩ := h
    rfl
  · obtain ⟨p, v, a, rfl, hs, ha, k⟩ := h
    cases (show v = .int a from ha)
    refine ⟨_, pss_one (ps_ret (pe_g (g_is_integer T) hr rfl (pa_cons (pv 1) pa_nil))), ?_⟩
    exact ⟨_, rfl, _, rfl, k _ (Same.refl _)⟩
theorem scS2 : FnScope ["self", "amount", "other"] ["self", "amount", "other"] (defScope (inClass (top 21) 2)) := ⟨rfl, rfl, rfl, by decide +kernel, rfl, by decide +kernel, by decide +kernel⟩
theorem m_add1 (T : Txt K mg C0 C1 C2 C3) : Mf P w K mg base 1 C1 "added" (spAdd (dSum C1)) := by
  refine mf_of T.c1.added scS2 (fun vs H Q E h => ?_) (fun _ _ _ _ _ _ us hl => match us, hl with | [_, _, _], _ => rfl) fun f cdv A outer s H vs Q E hr h => ?_
  · obtain ⟨p, v, u, a, b, rfl, _⟩ := h
    rfl
  · obtain ⟨p, v, u, a, b, rfl, hs, ha, hb, _, _, k⟩ := h
    cases (show v = .int a from ha)
    cases (show u = .int b from hb)
    refine ⟨_, pss_one (ps_ret (pe_op op_add (pv 1) (pv 2))), ?_⟩
    exact ⟨_, rfl, _, rfl, _, _, rfl, rfl, k _ _ (Same.refl _) rfl⟩
theorem scS3 : FnScope ["self", "amount"] ["self", "amount"] (defScope (inClass (top 21) 3)) := ⟨rfl, rfl, rfl, by decide +kernel, rfl, by decide +kernel, by decide +kernel⟩
theorem m_opp1 (T : Txt K mg C0 C1 C2 C3) : Mf P w K mg base 1 C1 "opposite" (spOpp (dSum C1)) := by
  refine mf_of T.c1.opposite scS3 (fun vs H Q E h => ?_) (fun _ _ _ _ _ _ us hl => match us, hl with | [_, _], _ => rfl) fun f cdv A outer s H vs Q E hr h => ?_
  · obtain ⟨p, v, a, rfl, _⟩ := h
    rfl
  · obtain ⟨p, v, a, rfl, hs, ha, k⟩ := h
    cases (show v = .int a from ha)
    refine ⟨_, pss_one (ps_ret (pe_op op_sub pe_int (pv 1))), ?_⟩
    exact ⟨_, rfl, _, _, rfl, rfl, k _ _ (Same.refl _) rfl⟩
theorem scS4 : FnScope ["self", "amounts"] ["self", "amounts"] (defScope (inClass (top 21) 4)) := ⟨rfl, rfl, rfl, by decide +kernel, rfl, by decide +kernel, by decide +kernel⟩
theorem m_tot1 (T : Txt K mg C0 C1 C2 C3) : Mf P w K mg base 1 C1 "total_in" (spTot (dSum C1)) := by
  refine mf_of T.c1.total_in scS4 (fun vs H Q E h => ?_) (fun _ _ _ _ _ _ us hl => match us, hl with | [_, _], _ => rfl) fun f cdv A outer s H vs Q E hr h => ?_
  · obtain ⟨p, t, xs, l, z, rfl, _⟩ := h
    rfl
  · obtain ⟨p, t, xs, l, z, rfl, hs, ht, hl, _, _, _, k⟩ := h
    have e := ams_int hl
    subst e
    refine ⟨_, pss_one (ps_ret (pe_callB (cr_sum rfl) rfl T.fsum (by decide +kernel) (pa_cons (pe_callTy call_list_of rfl T.flist boot_list (pa_cons (pv 1) pa_nil)) pa_nil))), ?_⟩
    refine ⟨_, rfl, t, _, rfl, .inr (SqT.of ht), fun q hq => ⟨q, l, rfl, SqL.of upd_same, ?_⟩⟩
    exact Eq.mpr (congrArg (fun n : Int => Q (.int n) (upd H q (.lst (l.map V.int)))) (sum_ints l)) (k _ _ (Same.new hq) rfl)
theorem scS5 : FnScope ["self", "amount", "other"] ["self", "amount", "other"] (defScope (inClass (top 21) 5)) := ⟨rfl, rfl, rfl, by decide +kernel, rfl, by decide +kernel, by decide +kernel⟩
theorem m_bef1 (T : Txt K mg C0 C1 C2 C3) : Mf P w K mg base 1 C1 "before" (spBef (dSum C1)) := by
  refine mf_of T.c1.before scS5 (fun vs H Q E h => ?_) (fun _ _ _ _ _ _ us hl => match us, hl with | [_, _, _], _ => rfl) fun f cdv A outer s H vs Q E hr h => ?_
  · obtain ⟨p, v, u, a, b, rfl, _⟩ := h
    rfl
  · obtain ⟨p, v, u, a, b, rfl, hs, ha, hb, _, _, k⟩ := h
    cases (show v = .int a from ha)
    cases (show u = .int b from hb)
    refine ⟨_, pss_one (ps_ret (pe_cmpR op_lt (pv 1) (pv 2) (nomark _))), ?_⟩
    exact ⟨_, rfl, _, rfl, _, _, rfl, rfl, k⟩
/-! ### odds -/
theorem scO0 : FnScope ["self", "value"] ["self", "value"] (defScope (inClass (top 23) 0)) := ⟨rfl, rfl, rfl, by decide +kernel, rfl, by decide +kernel, by decide +kernel⟩
theorem den_pos' (q : Rat) : (0 : Int) < (q.den : Int) := by
  have := q.den_pos
  omega
theorem m_form3 (T : Txt K mg C0 C1 C2 C3) : Mf P w K mg base 3 C3 "has_form" (spForm (dOdd C3)) := by
  refine mf_of T.c3.has_form scO0 (fun vs H Q E h => ?_) (fun _ _ _ _ _ _ us hl => match us, hl with | [_, _], _ => rfl) fun f cdv A outer s H vs Q E hr h => ?_
  · obtain ⟨p, v, a, rfl, _⟩ := h
    rfl
  · obtain ⟨p, v, a, rfl, hs, ⟨q, rfl, hq⟩, k⟩ := h
    refine ⟨_, pss_one (ps_ret (pe_g (g_fraction T) hr rfl (pa_cons (pv 1) pa_nil))), ?_⟩
    exact ⟨_, rfl, q, _, _, rfl, hq, num_pos_of a.2, den_pos' _, gcd_self_q _, k⟩
theorem scO3 : FnScope ["self", "amount"] ["self", "amount"] (defScope (inClass (top 23) 3)) := ⟨rfl, rfl, rfl, by decide +kernel, rfl, by decide +kernel, by decide +kernel⟩
theorem m_opp3 (T : Txt K mg C0 C1 C2 C3) : Mf P w K mg base 1 C3 "opposite" (spOpp (dOdd C3)) := by
  refine mf_of T.c3.opposite scO3 (fun vs H Q E h => ?_) (fun _ _ _ _ _ _ us hl => match us, hl with | [_, _], _ => rfl) fun f cdv A outer s H vs Q E hr h => ?_
  · obtain ⟨p, v, a, rfl, _⟩ := h
    rfl
  · obtain ⟨p, v, a, rfl, hs, ⟨q, rfl, hq⟩, k⟩ := h
    refine ⟨_, pss_one (ps_ret (pe_tup (pa_cons (pe_ix ix_tup (pv 1) pe_int (fun _ _ => rfl)) (pa_cons (pe_ix ix_tup (pv 1) pe_int (fun _ _ => rfl)) pa_nil)))), ?_⟩
    refine ⟨_, rfl, q, _, _, _, rfl, rfl, SqT.of hq, atI_nat rfl, _, rfl, q, _, _, _, rfl, rfl, SqT.of hq, atI_nat rfl, (by show 2 ≤ sizeLine; decide), fun p hp => ?_⟩
    refine k _ _ (Same.new hp) ⟨p, rfl, ?_⟩
    show upd H p _ p = some (.tup (([(a.1⁻¹).num, ((a.1⁻¹).den : Int)] : List Int).map V.int))
    rw [inv_num a.2, inv_den a.2]
    exact upd_same
theorem scO5 : FnScope ["self", "amount", "other"] ["self", "amount", "other"] (defScope (inClass (top 23) 5)) := ⟨rfl, rfl, rfl, by decide +kernel, rfl, by decide +kernel, by decide +kernel⟩
theorem okQ_mulW {s t : Nat} {a b : Int} (ha : a.natAbs < 2 ^ s) (hb : b.natAbs < 2 ^ t) (h : s + t ≤ 900000) : CMulW a b := by
  have ha' : a.natAbs < 2 ^ (s + 1) := Nat.lt_of_lt_of_le ha (Nat.pow_le_pow_right (by decide) (by omega))
  have hb' : b.natAbs < 2 ^ (t + 1) := Nat.lt_of_lt_of_le hb (Nat.pow_le_pow_right (by decide) (by omega))
  exact wide_mul ha' hb' (by omega) (by omega) (by omega)
theorem m_bef3 (T : Txt K mg C0 C1 C2 C3) : Mf P w K mg base 1 C3 "before" (spBef (dOdd C3)) := by
  refine mf_of T.c3.before scO5 (fun vs H Q E h => ?_) (fun _ _ _ _ _ _ us hl => match us, hl with | [_, _, _], _ => rfl) fun f cdv A outer s H vs Q E hr h => ?_
  · obtain ⟨p, v, u, a, b, rfl, _⟩ := h
    rfl
  · obtain ⟨p, v, u, a, b, rfl, hs, ⟨q, rfl, hq⟩, ⟨r, rfl, hr'⟩, oa, ob, k⟩ := h
    have oa : okQ 3000 a.1 := oa
    have ob : okQ 3000 b.1 := ob
    refine ⟨_, pss_one (ps_ret (pe_cmpR op_lt (pe_op op_mulW (pe_ix ix_tup (pv 1) pe_int (fun _ _ => rfl)) (pe_ix ix_tup (pv 2) pe_int (fun _ _ => rfl))) (pe_op op_mulW (pe_ix ix_tup (pv 2) pe_int (fun _ _ => rfl)) (pe_ix ix_tup (pv 1) pe_int (fun _ _ => rfl))) (nomark _))), ?_⟩
    refine ⟨_, rfl, q, _, _, _, rfl, rfl, SqT.of hq, atI_nat rfl, _, rfl, r, _, _, _, rfl, rfl, SqT.of hr', atI_nat rfl, _, _, rfl, rfl, okQ_mulW oa.1 (by rw [Int.natAbs_natCast]; exact ob.2) (by decide), ?_⟩
    refine ⟨_, rfl, r, _, _, _, rfl, rfl, SqT.of hr', atI_nat rfl, _, rfl, q, _, _, _, rfl, rfl, SqT.of hq, atI_nat rfl, _, _, rfl, rfl, okQ_mulW ob.1 (by rw [Int.natAbs_natCast]; exact oa.2) (by decide), _, _, rfl, rfl, ?_⟩
    have e : decide (a.1.num * (b.1.den : Int) < b.1.num * (a.1.den : Int)) = gOdd.lt a b := by
      show _ = decide (a.1 < b.1)
      by_cases h : a.1 < b.1
      · rw [decide_eq_true h, decide_eq_true ((Rat.lt_iff _ _).mp h)]
      · rw [decide_eq_false h, decide_eq_false fun z => h ((Rat.lt_iff _ _).mpr z)]
    show Q (.bl (decide (a.1.num * (b.1.den : Int) < b.1.num * (a.1.den : Int)))) H
    rw [e]
    exact k
theorem scO4 : FnScope ["self", "amounts", "top", "bottom", "amount"] ["self", "amounts"] (defScope (inClass (top 23) 4)) := ⟨rfl, rfl, rfl, by decide +kernel, rfl, by decide +kernel, by decide +kernel⟩
theorem sum_take {l : List QP} {i : Nat} {a : QP} (h : l[i]? = some a) : gOdd.sum (l.take (i + 1)) = gOdd.add (gOdd.sum (l.take i)) a := by
  obtain ⟨hi, e⟩ := List.getElem?_eq_some_iff.mp h
  have z := (Grp.sum_app (G := gOdd) (l.take i) [a]).trans (congrArg (gOdd.add (gOdd.sum (l.take i))) (Grp.sum_one (G := gOdd) a))
  rw [List.take_succ_eq_append_getElem hi, e]
  exact z
theorem m_tot3 (T : Txt K mg C0 C1 C2 C3) : Mf P w K mg base 3 C3 "total_in" (spTot (dOdd C3)) := by
  refine mf_of T.c3.total_in scO4 (fun vs H Q E h => ?_) (fun _ _ _ _ _ _ us hl => match us, hl with | [_, _], _ => rfl) fun f cdv A outer s H vs Q E hr h => ?_
  · obtain ⟨p, t, xs, l, z, rfl, _⟩ := h
    rfl
  · obtain ⟨p, t, xs, l, z, rfl, hs, ht, hl, hok, hz, hlen, k⟩ := h
    refine ⟨_, pss_cons (ps_asg (pe_tup (pa_cons pe_int (pa_cons pe_int pa_nil))) (pg_tup rfl (pgs_cons (pg_name (i := 2) scO4.nd rfl (Or.inl rfl)) (pgs_cons (pg_name (i := 3) scO4.nd rfl (Or.inl rfl)) pgs_nil))))
      (pss_cons (ps_for PassesOwn.never rfl (pi_tup (pv 1)) (pg_name (i := 4) scO4.nd rfl (Or.inl rfl))
        (pss_one (ps_par (i := 2) (j := 3) rfl scO4.nd rfl rfl (by decide) rfl rfl (pa_cons (pe_op op_mulW (pv 2) (pe_ix ix_tup (pv 4) pe_int (fun _ _ => rfl))) (pa_cons (pe_op op_mulW (pv 3) (pe_ix ix_tup (pv 4) pe_int (fun _ _ => rfl))) pa_nil)) (by rfl))))
      (pss_one (ps_ret (pe_g (g_reduced T) hr rfl (pa_cons (pv 2) (pa_cons (pv 3) pa_nil)))))), ?_⟩
    have hll : xs.length = l.length := hl.length
    refine ⟨(by show 2 ≤ sizeLine; decide), fun tp htp => ⟨tp, _, rfl, SqT.of upd_same, rfl, _, _, rfl, _, _, rfl, rfl, ?_⟩⟩
    have s1 : Same H (upd H tp (.tup [.int 1, .int 1])) := Same.new htp
    generalize upd H tp (.tup [.int 1, .int 1]) = H1 at s1
    have ht := s1 _ _ ht
    have hl := Ams.mono s1 hl
    refine ⟨_, rfl, t, rfl, ⟨_, SqT.of ht⟩, for_tup (K := K) (a := t) (xs := xs) (fun i σ H' => H' = H1 ∧ ∃ (x y : Int) (v : Option V), σ = [some (.ref p), some (.ref t), some (.int x), some (.int y), v] ∧ 0 < x ∧ 0 < y ∧
        Rat.divInt x y = (gOdd.sum (l.take i)).1 ∧ x.natAbs < 2 ^ (i * z + 1) ∧ y.natAbs < 2 ^ (i * z + 1)) ⟨rfl, 1, 1, none, rfl, by decide, by decide, rfl, by simp, by simp⟩ (fun i σ H' _ ⟨e, _⟩ => by rw [e]; exact SqT.of ht) ?_ ?_⟩
    · rintro i v σ H' hv ⟨rfl, x, y, u, rfl, hx, hy, hq, b1, b2⟩
      obtain ⟨a, ha, q, rfl, hqq⟩ := Paired.at_ hl hv
      have hi : i < l.length := (List.getElem?_eq_some_iff.mp ha).1
      obtain ⟨o1, o2⟩ := (show okQ z a.1 from hok a (List.mem_of_getElem? ha))
      have o2' : ((a.1.den : Int)).natAbs < 2 ^ z := by rw [Int.natAbs_natCast]; exact o2
      have hle : i * z + 1 + z ≤ 8000 := by
        have : (i + 1) * z ≤ l.length * z := Nat.mul_le_mul_right _ hi
        rw [Nat.add_mul] at this
        omega
      refine ⟨_, rfl, _, rfl, q, _, _, _, rfl, rfl, SqT.of hqq, atI_nat rfl, _, _, rfl, rfl, okQ_mulW b1 o1 (by omega), _, rfl, _, rfl, q, _, _, _, rfl, rfl, SqT.of hqq, atI_nat rfl, _, _, rfl, rfl, okQ_mulW b2 o2' (by omega), _, _, rfl, ?_⟩
      have n1 := num_pos_of a.2
      have n2 := den_pos' a.1
      refine ⟨rfl, x * a.1.num, y * (a.1.den : Int), _, rfl, Int.mul_pos hx n1, Int.mul_pos hy n2, ?_, ?_, ?_⟩
      · rw [sum_take ha]
        show _ = (gOdd.sum (l.take i)).1 * a.1
        rw [← hq, ← Rat.divInt_mul_divInt, qd_self]
      · rw [Nat.add_mul, Nat.one_mul, show i * z + z + 1 = (i * z + 1) + z by omega]
        exact wide_lt b1 o1
      · rw [Nat.add_mul, Nat.one_mul, show i * z + z + 1 = (i * z + 1) + z by omega]
        exact wide_lt b2 o2'
    · rintro σ H' ⟨rfl, x, y, u, rfl, hx, hy, hq, b1, b2⟩
      have hq2 : Rat.divInt x y = (gOdd.sum (l : List QP)).1 := hq.trans (congrArg (fun m : List QP => (gOdd.sum m).1) (List.take_of_length_le (i := xs.length) (Nat.le_of_eq hll.symm)))
      rw [hll] at b1 b2
      refine ⟨_, rfl, _, rfl, x, y, _, rfl, hx, hy, b1, b2, by omega, fun r hr0 => ?_⟩
      refine k _ _ (s1.trans (Same.new hr0)) ⟨r, rfl, ?_⟩
      show upd H' r _ r = some (.tup (([(gOdd.sum l).1.num, ((gOdd.sum l).1.den : Int)] : List Int).map V.int))
      rw [← hq2]
      exact upd_same
theorem scO2 : FnScope ["self", "amount", "other"] ["self", "amount", "other"] (defScope (inClass (top 23) 2)) := ⟨rfl, rfl, rfl, by decide +kernel, rfl, by decide +kernel, by decide +kernel⟩
theorem m_add3 (T : Txt K mg C0 C1 C2 C3) : Mf P w K mg base 4 C3 "added" (spAdd (dOdd C3)) := by
  refine mf_of T.c3.added scO2 (fun vs H Q E h => ?_) (fun _ _ _ _ _ _ us hl => match us, hl with | [_, _, _], _ => rfl) fun f cdv A outer s H vs Q E hr h => ?_
  · obtain ⟨p, v, u, a, b, rfl, _⟩ := h
    rfl
  · obtain ⟨p, v, u, a, b, rfl, hs, ha, hb, oa, ob, k⟩ := h
    refine ⟨_, pss_one (ps_ret (pe_m (m_tot3 T) T.c3.cl hr (pv 0) (pa_cons (pe_tup (pa_cons (pv 1) (pa_cons (pv 2) pa_nil))) pa_nil))), ?_⟩
    obtain ⟨dx, fs, h1, h2⟩ := sc_recv (m := "total_in") hs (by decide +kernel)
    refine ⟨_, rfl, p, dx, fs, rfl, h1, h2, _, rfl, _, rfl, (by show 2 ≤ sizeLine; decide), fun t ht => ?_⟩
    have s1 : Same H (upd H t (.tup [v, u])) := Same.new ht
    refine ⟨p, t, [v, u], [a, b], 3000, rfl, hs.mono s1, upd_same, .cons (ha.mono s1) (.cons (hb.mono s1) .nil), fun x hx => ?_, (by show 2 * 3000 + 1 ≤ 8000; decide), (by show 2 ≤ 100; decide), fun z H' s2 hz => ?_⟩
    · rcases List.mem_cons.mp hx with e | e
      · rw [e]; exact oa
      · rw [List.mem_singleton.mp e]; exact ob
    · have e := Grp.sum_two (G := gOdd) a b
      have hz : AmV H' z (gOdd.am (gOdd.sum [a, b])) := hz
      rw [e] at hz
      exact k z H' (s1.trans s2) hz
theorem scO1 : FnScope ["self", "value"] ["self", "value"] (defScope (inClass (top 23) 1)) := ⟨rfl, rfl, rfl, by decide +kernel, rfl, by decide +kernel, by decide +kernel⟩
/-- odds as a weight -/
def isW (a : QP) : Prop := (a.1.den : Int) < a.1.num ∧ a.1.num ≤ 1000000
def spHasW (D : Kd) (G : QP → Prop) : Sp := fun vs H Q _ => ∃ p v a, vs = [.ref p, v] ∧ AmV H v (gOdd.am a) ∧ G a ∧ Q (.bl true) H
theorem m_weight3 (T : Txt K mg C0 C1 C2 C3) : Mf P w K mg base 1 C3 "has_weight" (spHasW (dOdd C3) isW) := by
  refine mf_of T.c3.has_weight scO1 (fun vs H Q E h => ?_) (fun _ _ _ _ _ _ us hl => match us, hl with | [_, _], _ => rfl) fun f cdv A outer s H vs Q E hr h => ?_
  · obtain ⟨p, v, a, rfl, _⟩ := h
    rfl
  · obtain ⟨p, v, a, rfl, ⟨q, rfl, hq⟩, ⟨g1, g2⟩, k⟩ := h
    obtain ⟨tk, hmo⟩ := T.iMAX_ODDS
    refine ⟨_, pss_one (ps_ret (pe_chain op_lt op_le (pe_ix ix_tup (pv 1) pe_int (fun _ _ => rfl)) (pe_ix ix_tup (pv 1) pe_int (fun _ _ => rfl)) (pe_glob rfl hmo (v := .int 1000000) ⟨_, rfl⟩))), ?_⟩
    refine ⟨_, rfl, q, _, _, _, rfl, rfl, SqT.of hq, atI_nat rfl, _, rfl, q, _, _, _, rfl, rfl, SqT.of hq, atI_nat rfl, _, _, rfl, rfl, _, rfl, ?_⟩
    rw [decide_eq_true g1]
    refine iteT ⟨_, _, rfl, rfl, ?_⟩
    have e : decide (a.1.num ≤ (1000000 : Int)) = true := decide_eq_true g2
    show Q (.bl (decide (a.1.num ≤ (1000000 : Int)))) H
    rw [e]
    exact k
end
end Mo

set_option Elab.async false
set_option linter.all false
set_option maxRecDepth 100000
set_option maxHeartbeats 4000000
namespace Mo
open PySem PySem.Spec PyProof.Rows L2
/-! ### classes: the mathematics -/
theorem zadd_snoc : ∀ {xs ys : List Int} (x y : Int), xs.length = ys.length → zadd (xs ++ [x]) (ys ++ [y]) = zadd xs ys ++ [x + y]
  | [], [], x, y, _ => rfl
  | a :: r, b :: s, x, y, h => by
    show (a + b) :: zadd (r ++ [x]) (s ++ [y]) = (a + b) :: (zadd r s ++ [x + y])
    rw [zadd_snoc x y (Nat.succ.inj h)]
theorem zadd_get : ∀ {xs ys : List Int} {i : Nat} {x y : Int}, xs[i]? = some x → ys[i]? = some y → (zadd xs ys)[i]? = some (x + y)
  | a :: r, b :: s, 0, x, y, hx, hy => by
    have e1 : a = x := Option.some.inj hx
    have e2 : b = y := Option.some.inj hy
    rw [e1, e2]
    rfl
  | a :: r, b :: s, i + 1, x, y, hx, hy => zadd_get (i := i) (xs := r) (ys := s) hx hy
  | [], _, _, _, _, hx, _ => by simp at hx
  | _ :: _, [], _, _, _, _, hy => by simp at hy
theorem take_snoc {α : Type} {l : List α} {i : Nat} {x : α} (h : l[i]? = some x) : l.take (i + 1) = l.take i ++ [x] := by
  obtain ⟨hi, e⟩ := List.getElem?_eq_some_iff.mp h
  rw [List.take_succ_eq_append_getElem hi, e]
theorem cls_sum_at {k : Nat} {hk : k ≤ 4} {i : Nat} (hi : i < k) : ∀ l : List { l : List Int // l.length = k }, ((gCls k hk).sum l).1[i]? = some ((l.map fun a => a.1.getD i 0).sum)
  | [] => by
    show (List.replicate k (0 : Int))[i]? = some 0
    rw [List.getElem?_replicate, if_pos hi]
  | a :: r => by
    have ih := cls_sum_at (hk := hk) hi r
    have e : (gCls k hk).sum (a :: r) = (gCls k hk).add a ((gCls k hk).sum r) := Grp.sum_cons (G := gCls k hk) a r
    have ea : a.1[i]? = some (a.1.getD i 0) := by
      have : i < a.1.length := by rw [a.2]; exact hi
      rw [List.getD_eq_getElem?_getD, List.getElem?_eq_getElem this]
      rfl
    rw [e, List.map_cons, List.sum_cons]
    exact zadd_get ea ih
/-- the scope of the comprehension that a def hands to one call in its return -/
def lcScope (st : Stmt) : Scope := match defBody st with
  | [.Return (some (.Call _ [.ListComp _ _ sc _] _ _)) _] => sc
  | _ => { kind := .function, names := [], isGenerator := false, isCoroutine := false }
def relI (l : List Int) : List V := l.map V.int
section
variable {P : Program} {w : World} {K : PySem.W.Frag} {mg : Str → Option Value} {base : Heap} {C0 C1 C2 C3 : Addr} {k : Nat} {hk : k ≤ 4}
theorem scC0 : FnScope ["self", "value", "one"] ["self", "value"] (defScope (inClass (top 22) 0)) := ⟨rfl, rfl, rfl, by decide +kernel, rfl, by decide +kernel, by decide +kernel⟩
theorem m_form2 (T : Txt K mg C0 C1 C2 C3) (k : Nat) (hk : k ≤ 4) : Mf P w K mg base 2 C2 "has_form" (spForm (dCls C2 k hk)) := by
  refine mf_of T.c2.has_form scC0 (fun vs H Q E h => ?_) (fun _ _ _ _ _ _ us hl => match us, hl with | [_, _], _ => rfl) fun f cdv A outer s H vs Q E hr h => ?_
  · obtain ⟨p, v, a, rfl, _⟩ := h
    rfl
  · obtain ⟨p, v, a, rfl, hs, ⟨q, rfl, hq⟩, kk⟩ := h
    obtain ⟨dx, z, o, h1, h2⟩ := id hs
    have hal : a.1.length = k := a.2
    refine ⟨_, pss_cons (ps_if (PW.pt (pw_or (pt_not (pt_val (pe_callB call_isi rfl T.fisinstance boot_isinstance (pa_cons (pv 1) (pa_cons (pe_bltn rfl T.ftuple boot_tuple (v := .ty "tuple") rfl) pa_nil)))))
        (pw_or1 (pt_cmpR op_ne (pe_callB call_len_seq rfl T.flen PySem.boot_len (pa_cons (pv 1) pa_nil)) (pe_fld (pv 0) rfl) (nomark _)))))
        (pss_one (ps_ret pe_bl)) pss_nil)
      (pss_one (ps_ret (pe_callB (cr_all rfl) rfl T.fall (by decide +kernel) (pa_cons
          (pe_lc (own := [("one", 2)]) (g := gName 2) (tt := tYes) rfl scC0.nd (pi_tup (pv 1)) (blkOk_by (own := [("one", 2)]) (N := ["self", "value", "one"]) (sc := defScope (inClass (top 22) 0)) (by decide +kernel))
            (fun _ _ _ _ _ => pg_name (i := 2) scC0.nd rfl (Or.inl rfl)) (fun _ _ _ _ _ => pts_nil)
            (fun _ _ _ _ _ => pe_g (g_is_integer T) hr rfl (pa_cons (pv 2) pa_nil))) pa_nil)))), ?_⟩
    refine ⟨_, rfl, _, _, _, _, true, rfl, .ty _, .base (.tup hq), kit_ty (by decide +kernel), true, rfl, iteF ?_⟩
    refine ⟨_, rfl, q, _, rfl, .inr (SqT.of hq), _, rfl, p, C2, dx, _, _, rfl, h1, T.c2.cl, T.c2.n1, fsc_size _ _ _ _, rfl, _, rfl, ?_⟩
    have e : (!decide (V.int ((a.1.map V.int).length : Int) = V.int (k : Int))) = false := by
      rw [List.length_map, hal]
      simp
    refine (congrArg (fun b : Bool => if b = true then _ else _) e).mpr (iteF ?_)
    refine ⟨_, rfl, q, rfl, ⟨_, SqT.of hq⟩, fun D hD => lc_tup (K := K) (a := q) (xs := a.1.map V.int) (fun i H2 => Same H H2 ∧ H2 D = some (.lst ((List.replicate i true).map V.bl))) ⟨Same.new hD, upd_same⟩
      (fun i H2 _ ⟨s2, _⟩ => SqT.of (s2 _ _ hq)) ?_ ?_⟩
    · rintro i x H2 hx ⟨s2, hl⟩
      obtain ⟨m, hm, rfl⟩ := map_at hx
      have hi : i < a.1.length := (List.getElem?_eq_some_iff.mp hm).1
      refine ⟨rfl, _, rfl, _, rfl, _, hl, ?_, ?_⟩
      · rw [len_rep]
        exact small1000 (by omega)
      · rw [repl_next]
        exact ⟨fun c o q => by rw [upd_ne (fun z => by rw [z, hD] at q; cases q)]; exact s2 _ _ q, upd_same⟩
    · rintro H2 ⟨s2, hl⟩
      refine ⟨_, _, rfl, SqL.of hl, ?_⟩
      rw [repl_true]
      exact kk _ s2
theorem scC2 : FnScope ["self", "amount", "other", "one", "two"] ["self", "amount", "other"] (defScope (inClass (top 22) 2)) := ⟨rfl, rfl, rfl, by decide +kernel, rfl, by decide +kernel, by decide +kernel⟩
theorem m_add2 (T : Txt K mg C0 C1 C2 C3) (k : Nat) (hk : k ≤ 4) : Mf P w K mg base 1 C2 "added" (spAdd (dCls C2 k hk)) := by
  refine mf_of T.c2.added scC2 (fun vs H Q E h => ?_) (fun _ _ _ _ _ _ us hl => match us, hl with | [_, _, _], _ => rfl) fun f cdv A outer s H vs Q E hr h => ?_
  · obtain ⟨p, v, u, a, b, rfl, _⟩ := h
    rfl
  · obtain ⟨p, v, u, a, b, rfl, hs, ⟨q, rfl, hq⟩, ⟨r, rfl, hr0⟩, _, _, kk⟩ := h
    have hal : a.1.length = k := a.2
    have hbl : b.1.length = k := b.2
    refine ⟨_, pss_one (ps_ret (pe_callTy call_tuple_of rfl T.ftuple boot_tuple (pa_cons
          (pe_lc (own := [("one", 3), ("two", 4)]) (g := gTup K 2 (gCons (gName 3) (gCons (gName 4) gNil))) (tt := tYes) rfl scC2.nd (RZ.pi_zipA rfl T.fzip (pa_cons (pv 1) (pa_cons (pv 2) pa_nil)))
            (blkOk_by (own := [("one", 3), ("two", 4)]) (N := ["self", "amount", "other", "one", "two"]) (sc := defScope (inClass (top 22) 2)) (by decide +kernel))
            (fun _ _ _ _ _ => pg_tup rfl (pgs_cons (pg_name (i := 3) scC2.nd rfl (Or.inl rfl)) (pgs_cons (pg_name (i := 4) scC2.nd rfl (Or.inl rfl)) pgs_nil))) (fun _ _ _ _ _ => pts_nil)
            (fun _ _ _ _ _ => pe_op op_add (pv 3) (pv 4))) pa_nil))), ?_⟩
    refine ⟨_, rfl, _, rfl, q, r, _, _, rfl, .inr ⟨SqT.of hq, SqT.of hr0, fun D hD => ?_⟩⟩
    refine lc_it (walk_zipT (K := K) (a := q) (b := r) (xs := a.1.map V.int) (ys := b.1.map V.int) (n := k) (by rw [List.length_map, List.length_map]; omega))
      (fun i H4 => Same H H4 ∧ H4 D = some (.lst ((zadd (a.1.take i) (b.1.take i)).map V.int))) ⟨Same.new hD, upd_same⟩ (fun i H4 _ ⟨s4, _⟩ => ⟨SqT.of (s4 _ _ hq), SqT.of (s4 _ _ hr0)⟩) ?_ ?_
    · rintro i x H4 H5 hi ⟨s4, hl4⟩ ⟨Tn, x1, x2, rfl, hT, rfl, e1, e2⟩
      obtain ⟨m1, hm1, rfl⟩ := map_at e1
      obtain ⟨m2, hm2, rfl⟩ := map_at e2
      have ne : D ≠ Tn := ne_of_none hl4 hT
      refine ⟨_, _, rfl, SqT.of upd_same, rfl, _, _, rfl, _, _, rfl, rfl, rfl, _, rfl, _, rfl, _, _, rfl, rfl, _, by rw [upd_ne ne]; exact hl4, ?_, ?_⟩
      · rw [List.length_map, zadd_len (by rw [List.length_take, List.length_take]; omega), List.length_take]
        exact small1000 (by omega)
      · refine ⟨fun c o q => by rw [upd_ne (fun z => by rw [z, hD] at q; cases q), upd_ne (ne_of_none (s4 _ _ q) hT)]; exact s4 _ _ q, ?_⟩
        rw [upd_same, take_snoc hm1, take_snoc hm2, zadd_snoc _ _ (by rw [List.length_take, List.length_take]; omega), List.map_append]
        rfl
    · rintro H4 ⟨s4, hl4⟩
      rw [List.take_of_length_le (by omega), List.take_of_length_le (by omega)] at hl4
      refine ⟨D, _, rfl, .inl ⟨SqL.of hl4, fun t ht => ?_⟩⟩
      exact kk _ _ (s4.trans (Same.new ht)) ⟨t, rfl, upd_same⟩
theorem scC3 : FnScope ["self", "amount", "one"] ["self", "amount"] (defScope (inClass (top 22) 3)) := ⟨rfl, rfl, rfl, by decide +kernel, rfl, by decide +kernel, by decide +kernel⟩
theorem m_opp2 (T : Txt K mg C0 C1 C2 C3) (k : Nat) (hk : k ≤ 4) : Mf P w K mg base 1 C2 "opposite" (spOpp (dCls C2 k hk)) := by
  refine mf_of T.c2.opposite scC3 (fun vs H Q E h => ?_) (fun _ _ _ _ _ _ us hl => match us, hl with | [_, _], _ => rfl) fun f cdv A outer s H vs Q E hr h => ?_
  · obtain ⟨p, v, a, rfl, _⟩ := h
    rfl
  · obtain ⟨p, v, a, rfl, hs, ⟨q, rfl, hq⟩, kk⟩ := h
    have hal : a.1.length = k := a.2
    refine ⟨_, pss_one (ps_ret (pe_callTy call_tuple_of rfl T.ftuple boot_tuple (pa_cons
          (pe_lc (own := [("one", 2)]) (g := gName 2) (tt := tYes) rfl scC3.nd (pi_tup (pv 1)) (blkOk_by (own := [("one", 2)]) (N := ["self", "amount", "one"]) (sc := defScope (inClass (top 22) 3)) (by decide +kernel))
            (fun _ _ _ _ _ => pg_name (i := 2) scC3.nd rfl (Or.inl rfl)) (fun _ _ _ _ _ => pts_nil)
            (fun _ _ _ _ _ => pe_op op_sub pe_int (pv 2))) pa_nil))), ?_⟩
    refine ⟨_, rfl, q, rfl, ⟨_, SqT.of hq⟩, fun D hD => lc_tup (K := K) (a := q) (xs := a.1.map V.int) (fun i H2 => Same H H2 ∧ H2 D = some (.lst (((a.1.take i).map fun x => 0 - x).map V.int))) ⟨Same.new hD, upd_same⟩
      (fun i H2 _ ⟨s2, _⟩ => SqT.of (s2 _ _ hq)) ?_ ?_⟩
    · rintro i x H2 hx ⟨s2, hl⟩
      obtain ⟨m, hm, rfl⟩ := map_at hx
      have hi : i < a.1.length := (List.getElem?_eq_some_iff.mp hm).1
      refine ⟨rfl, _, rfl, _, _, rfl, rfl, _, hl, ?_, ?_⟩
      · rw [List.length_map, List.length_map, List.length_take]
        exact small1000 (by omega)
      · refine ⟨fun c o q => by rw [upd_ne (fun z => by rw [z, hD] at q; cases q)]; exact s2 _ _ q, ?_⟩
        rw [upd_same, take_snoc hm, List.map_append, List.map_append]
        rfl
    · rintro H2 ⟨s2, hl⟩
      rw [List.length_map, List.take_length] at hl
      refine ⟨D, _, rfl, .inl ⟨SqL.of hl, fun t ht => ?_⟩⟩
      exact kk _ _ (s2.trans (Same.new ht)) ⟨t, rfl, upd_same⟩
theorem scC5 : FnScope ["self", "amount", "other"] ["self", "amount", "other"] (defScope (inClass (top 22) 5)) := ⟨rfl, rfl, rfl, by decide +kernel, rfl, by decide +kernel, by decide +kernel⟩
theorem m_bef2 (T : Txt K mg C0 C1 C2 C3) (k : Nat) (hk : k ≤ 4) : Mf P w K mg base 1 C2 "before" (spBef (dCls C2 k hk)) := by
  refine mf_of T.c2.before scC5 (fun vs H Q E h => ?_) (fun _ _ _ _ _ _ us hl => match us, hl with | [_, _, _], _ => rfl) fun f cdv A outer s H vs Q E hr h => ?_
  · obtain ⟨p, v, u, a, b, rfl, _⟩ := h
    rfl
  · obtain ⟨p, v, u, a, b, rfl, hs, ⟨q, rfl, hq⟩, ⟨r, rfl, hr0⟩, _, _, kk⟩ := h
    refine ⟨_, pss_one (ps_ret (pe_cmpR (op_ltT hr.units0) (pv 1) (pv 2) (nomark _))), ?_⟩
    exact ⟨_, rfl, _, rfl, q, r, a.1, b.1, rfl, rfl, SqT.of hq, SqT.of hr0, kk⟩
theorem scC4 : FnScope ["self", "amounts", "at", "amount"] ["self", "amounts"] (defScope (inClass (top 22) 4)) := ⟨rfl, rfl, rfl, by decide +kernel, rfl, by decide +kernel, by decide +kernel⟩
theorem ams_at {H : Hp} {xs : List V} {l : List { l : List Int // l.length = k }} (h : Ams (gCls k hk) H xs l) {i : Nat} {v : V} (e : xs[i]? = some v) : ∃ a q, l[i]? = some a ∧ v = .ref q ∧ H q = some (.tup (a.1.map V.int)) := by
  obtain ⟨a, ha, q, e1, e2⟩ := Paired.at_ h e
  exact ⟨a, q, ha, e1, e2⟩
theorem m_tot2 (T : Txt K mg C0 C1 C2 C3) (k : Nat) (hk : k ≤ 4) : Mf P w K mg base 1 C2 "total_in" (spTot (dCls C2 k hk)) := by
  refine mf_of T.c2.total_in scC4 (fun vs H Q E h => ?_) (fun _ _ _ _ _ _ us hl => match us, hl with | [_, _], _ => rfl) fun f cdv A outer s H vs Q E hr h => ?_
  · obtain ⟨p, t, xs, l, z, rfl, _⟩ := h
    rfl
  · obtain ⟨p, t, xs, l, z, rfl, hs, ht, hl, _, _, hlen, kk⟩ := h
    obtain ⟨dx, zz, o, h1, h2⟩ := id hs
    have hll : xs.length = l.length := hl.length
    refine ⟨_, pss_one (ps_ret (pe_callTy call_tuple_of rfl T.ftuple boot_tuple (pa_cons
          (pe_lc (own := [("at", 2)]) (g := gName 2) (tt := tYes) (te := tCB (rSum K) (tCons (tLc (iTup K (tVar 1)) (gName 3) tYes (tOp (rIxT K) (tVar 3) (tVar 2)) [3]) tNil)) rfl scC4.nd (pi_range1 rfl T.frange (pa_cons (pe_fld (pv 0) rfl) pa_nil)) (blkOk_by (own := [("at", 2)]) (N := ["self", "amounts", "at", "amount"]) (sc := defScope (inClass (top 22) 4)) (by decide +kernel))
            (fun _ _ _ _ _ => pg_name (i := 2) scC4.nd rfl (Or.inr rfl)) (fun _ _ _ _ _ => pts_nil)
            (fun s1 H1 c1 cl1 fp1 => ?_)) pa_nil))), ?_⟩
    · exact pe_callB (cr_sum rfl) rfl T.fsum (by decide +kernel) (pa_cons
              (pe_lc (own := [("amount", 3)]) (g := gName 3) (tt := tYes) rfl scC4.nd (pi_tup (pv 1)) (blkOk_by (own := [("amount", 3)]) (N := ["self", "amounts", "at", "amount"]) (sc := relS (lcScope (inClass (top 22) 4)) (defScope (inClass (top 22) 4))) (by decide +kernel))
                (fun _ _ _ _ _ => pg_name (i := 3) scC4.nd rfl (Or.inl rfl)) (fun _ _ _ _ _ => pts_nil)
                (fun _ _ _ _ _ => pe_ix ix_tup (pv 3) (pv 2) (fun _ _ => rfl))) pa_nil)
    refine ⟨_, rfl, p, C2, dx, _, _, rfl, h1, T.c2.cl, T.c2.n1, fsc_size _ _ _ _, k, rfl, by omega, by omega, fun D hD => ?_⟩
    refine lc_range (lo := 0) (n := (k : Int).toNat) (fun i H2 => Same H H2 ∧ H2 D = some (.lst ((((gCls k hk).sum l).1.take i).map V.int))) ⟨Same.new hD, upd_same⟩ ?_ ?_
    · rintro i H2 hi ⟨s2, hD2⟩
      have hik : i < k := by omega
      refine ⟨rfl, _, rfl, t, rfl, ⟨_, SqT.of (s2 _ _ ht)⟩, fun D2 hDD => lc_tup (K := K) (a := t) (xs := xs) (fun j H3 => Same H2 H3 ∧ H3 D2 = some (.lst (((l.take j).map fun a => a.1.getD i 0).map V.int))) ⟨Same.new hDD, upd_same⟩
        (fun j H3 _ ⟨s3, _⟩ => SqT.of (s3 _ _ (s2 _ _ ht))) ?_ ?_⟩
      · rintro j v H3 hv ⟨s3, hl3⟩
        obtain ⟨a, q, ha, rfl, hq⟩ := ams_at (hk := hk) (Ams.mono (s2.trans s3) hl) hv
        have hj : j < l.length := (List.getElem?_eq_some_iff.mp ha).1
        have e : atI (a.1.map V.int) (0 + (i : Int)) = some (.int (a.1.getD i 0)) := by
          have hi2 : i < a.1.length := by rw [a.2]; exact hik
          refine at_of (j := i) (by omega) ?_
          rw [List.getElem?_map, List.getElem?_eq_getElem hi2, List.getD_eq_getElem?_getD, List.getElem?_eq_getElem hi2]
          rfl
        refine ⟨rfl, _, rfl, _, rfl, q, _, _, _, rfl, rfl, SqT.of hq, e, _, hl3, ?_, ?_⟩
        · rw [List.length_map, List.length_map, List.length_take]
          exact small1000 (by omega)
        · refine ⟨fun c o q => by rw [upd_ne (fun z => by rw [z, hDD] at q; cases q)]; exact s3 _ _ q, ?_⟩
          rw [upd_same, take_snoc ha, List.map_append, List.map_append]
          rfl
      · rintro H3 ⟨s3, hl3⟩
        rw [hll, List.take_length] at hl3
        have hsum := cls_sum_at (hk := hk) hik l
        refine ⟨D2, _, rfl, SqL.of hl3, _, s3 _ _ hD2, ?_, ?_⟩
        · rw [List.length_map, List.length_take]
          exact small1000 (by omega)
        · have s23 := s2.trans s3
          refine ⟨fun c o q => by rw [upd_ne (fun z => by rw [z, hD] at q; cases q)]; exact s23 _ _ q, ?_⟩
          rw [upd_same, take_snoc hsum, List.map_append]
          rfl
    · rintro H2 ⟨s2, hD2⟩
      have hsl : ((gCls k hk).sum l).1.length = k := ((gCls k hk).sum l).2
      rw [List.take_of_length_le (by omega)] at hD2
      refine ⟨D, _, rfl, .inl ⟨SqL.of hD2, fun q hq => ?_⟩⟩
      exact kk _ _ (s2.trans (Same.new hq)) ⟨q, rfl, upd_same⟩
end
end Mo

set_option Elab.async false
set_option linter.all false
set_option maxRecDepth 100000
set_option maxHeartbeats 4000000
namespace Mo
open PySem PySem.Spec PyProof.Rows L2
/-! ### the base class's methods, for any kind of scale -/
structure Abs (P : Program) (w : World) (K : PySem.W.Frag) (mg : Str → Option Value) (base : Heap) (C0 : Addr) (D : Kd) : Prop where
  ct : ∃ n q0 q1 q2 q3 q4 q5, CT K C0 D.C n q0 q1 q2 q3 q4 q5
  form : Mf P w K mg base 4 D.C "has_form" (spForm D)
  opp : Mf P w K mg base 4 D.C "opposite" (spOpp D)
  add : Mf P w K mg base 4 D.C "added" (spAdd D)
  bef : Mf P w K mg base 4 D.C "before" (spBef D)
  tot : Mf P w K mg base 4 D.C "total_in" (spTot D)
section
variable {P : Program} {w : World} {K : PySem.W.Frag} {mg : Str → Option Value} {base : Heap} {C0 C1 C2 C3 : Addr}
theorem abs1 (T : Txt K mg C0 C1 C2 C3) : Abs P w K mg base C0 (dSum C1) :=
  ⟨⟨_, _, _, _, _, _, _, T.c1⟩, (m_form1 T).mono (by decide), (m_opp1 T).mono (by decide), (m_add1 T).mono (by decide), (m_bef1 T).mono (by decide), (m_tot1 T).mono (by decide)⟩
theorem abs2 (T : Txt K mg C0 C1 C2 C3) (k : Nat) (hk : k ≤ 4) : Abs P w K mg base C0 (dCls C2 k hk) :=
  ⟨⟨_, _, _, _, _, _, _, T.c2⟩, (m_form2 T k hk).mono (by decide), (m_opp2 T k hk).mono (by decide), (m_add2 T k hk).mono (by decide), (m_bef2 T k hk).mono (by decide), (m_tot2 T k hk).mono (by decide)⟩
theorem abs3 (T : Txt K mg C0 C1 C2 C3) : Abs P w K mg base C0 (dOdd C3) :=
  ⟨⟨_, _, _, _, _, _, _, T.c3⟩, (m_form3 T).mono (by decide), (m_opp3 T).mono (by decide), (m_add3 T).mono (by decide), (m_bef3 T).mono (by decide), (m_tot3 T).mono (by decide)⟩
end
theorem Same.def_ {H H' : Hp} (h : L2.Same H H') : ∀ b o, H b = some o → H' b = some o := h
def spReq1 (D : Kd) : Sp := fun vs H Q _ => ∃ p v a, vs = [.ref p, v] ∧ ScAt D H p ∧ AmV H v (D.G.am a) ∧ ∀ H', Same H H' → Q .non H'
def spReqs (D : Kd) : Sp := fun vs H Q _ => ∃ p t xs l, vs = [.ref p, .ref t] ∧ ScAt D H p ∧ H t = some (.tup xs) ∧ Ams D.G H xs l ∧ ∀ H', Same H H' → Q .non H'
def spPlus (D : Kd) : Sp := fun vs H Q _ => ∃ p xs l s, vs = .ref p :: xs ∧ ScAt D H p ∧ Ams D.G H xs l ∧ (∀ x ∈ l, D.G.ok s x) ∧ l.length * s + 1 ≤ 8000 ∧ l.length ≤ 5 ∧ ∀ z H', Same H H' → AmV H' z (D.G.am (D.G.sum l)) → Q z H'
def spMinus (D : Kd) : Sp := fun vs H Q _ => ∃ p v u a b, vs = [.ref p, v, u] ∧ ScAt D H p ∧ AmV H v (D.G.am a) ∧ AmV H u (D.G.am b) ∧ D.G.ok 3000 a ∧ D.G.ok 3000 b ∧ ∀ z H', Same H H' → AmV H' z (D.G.am (D.G.add a (D.G.neg b))) → Q z H'
def spTwice (D : Kd) : Sp := fun vs H Q _ => ∃ p v a, vs = [.ref p, v] ∧ ScAt D H p ∧ AmV H v (D.G.am a) ∧ D.G.ok 3000 a ∧ ∀ z H', Same H H' → AmV H' z (D.G.am (D.G.add a a)) → Q z H'
def spLess (D : Kd) : Sp := fun vs H Q _ => ∃ p v u a b, vs = [.ref p, v, u] ∧ ScAt D H p ∧ AmV H v (D.G.am a) ∧ AmV H u (D.G.am b) ∧ D.G.ok 3000 a ∧ D.G.ok 3000 b ∧ ∀ H', Same H H' → Q (.bl (D.G.lt a b)) H'
def sgI (G : Grp) (a : G.α) : Int := if G.am a = G.am G.zero then 0 else if G.lt a G.zero = true then -1 else 1
def spSign (D : Kd) : Sp := fun vs H Q _ => ∃ p v a, vs = [.ref p, v] ∧ ScAt D H p ∧ AmV H v (D.G.am a) ∧ D.G.ok 3000 a ∧ ∀ H', Same H H' → Q (.int (sgI D.G a)) H'
def spZero (D : Kd) : Sp := fun vs H Q _ => ∃ p, vs = [.ref p] ∧ ScAt D H p ∧ ∀ z, AmV H z (D.G.am D.G.zero) → Q z H
def spEq (D : Kd) : Sp := fun vs H Q _ => ∃ p q, vs = [.ref p, .ref q] ∧ ScAt D H p ∧ ScAt D H q ∧ Q (.bl true) H
theorem ok3000 {G : Grp} : G.ok 3000 G.zero := G.ok_mono _ _ _ (by decide) G.ok_zero
section
variable {P : Program} {w : World} {K : PySem.W.Frag} {mg : Str → Option Value} {base : Heap} {C0 C1 C2 C3 : Addr} {D : Kd}
theorem sc_req1 : FnScope ["self", "value"] ["self", "value"] (defScope (inClass (top 20) 11)) := ⟨rfl, rfl, rfl, by decide +kernel, rfl, by decide +kernel, by decide +kernel⟩
theorem m_req1 (B : Abs P w K mg base C0 D) : Mf P w K mg base 5 D.C "require_amount" (spReq1 D) := by
  obtain ⟨n, q0, q1, q2, q3, q4, q5, ct⟩ := B.ct
  refine mf_of ct.require_amount sc_req1 (fun vs H Q E h => ?_) (fun _ _ _ _ _ _ us hl => match us, hl with | [_, _], _ => rfl) fun f cdv A outer s H vs Q E hr h => ?_
  · obtain ⟨p, v, a, rfl, _⟩ := h
    rfl
  · obtain ⟨p, v, a, rfl, hs, ha, k⟩ := h
    refine ⟨_, pss_one (ps_if (pt_not (pt_val (pe_m B.form ct.cl hr (pv 0) (pa_cons (pv 1) pa_nil)))) pss_never pss_nil), ?_⟩
    obtain ⟨dx, fs, h1, h2⟩ := sc_recv (m := "has_form") hs (by decide +kernel)
    refine ⟨_, rfl, p, dx, fs, rfl, h1, h2, _, rfl, p, v, a, rfl, hs, ha, fun H' s' => ⟨true, rfl, ?_⟩⟩
    exact iteF (k _ s')
theorem sc_reqs : FnScope ["self", "value", "amount"] ["self", "value"] (defScope (inClass (top 20) 12)) := ⟨rfl, rfl, rfl, by decide +kernel, rfl, by decide +kernel, by decide +kernel⟩
theorem m_reqs (T : Txt K mg C0 C1 C2 C3) (B : Abs P w K mg base C0 D) : Mf P w K mg base 6 D.C "require_amounts" (spReqs D) := by
  obtain ⟨n, q0, q1, q2, q3, q4, q5, ct⟩ := B.ct
  refine mf_of ct.require_amounts sc_reqs (fun vs H Q E h => ?_) (fun _ _ _ _ _ _ us hl => match us, hl with | [_, _], _ => rfl) fun f cdv A outer s H vs Q E hr h => ?_
  · obtain ⟨p, t, xs, l, rfl, _⟩ := h
    rfl
  · obtain ⟨p, t, xs, l, rfl, hs, ht, hl, k⟩ := h
    refine ⟨_, pss_cons (ps_if (pt_not (pt_val (pe_callB call_isi rfl T.fisinstance boot_isinstance (pa_cons (pv 1) (pa_cons (pe_bltn rfl T.ftuple boot_tuple (v := .ty "tuple") rfl) pa_nil))))) pss_never pss_nil)
      (pss_one (ps_for PassesOwn.never rfl (pi_tup (pv 1)) (pg_name (i := 2) sc_reqs.nd rfl (Or.inl rfl)) (pss_one (ps_expr (pe_m (m_req1 B) ct.cl hr (pv 0) (pa_cons (pv 2) pa_nil)))))), ?_⟩
    refine ⟨_, rfl, _, _, _, _, true, rfl, .ty _, .base (.tup ht), kit_ty (by decide +kernel), true, rfl, iteF ?_⟩
    refine ⟨_, rfl, t, rfl, ⟨_, SqT.of ht⟩, for_tup (K := K) (a := t) (xs := xs) (fun i σ H' => Same H H' ∧ ∃ v : Option V, σ = [some (.ref p), some (.ref t), v]) ⟨Same.refl _, none, rfl⟩ (fun i σ H' _ ⟨s', _⟩ => SqT.of (s' _ _ ht)) ?_ ?_⟩
    · rintro i v σ H' hv ⟨s', u, rfl⟩
      obtain ⟨a, ha, hav⟩ := Paired.at_ hl hv
      obtain ⟨dx, fs, h1, h2⟩ := sc_recv (m := "require_amount") (hs.mono s') (by decide +kernel)
      refine ⟨_, rfl, p, dx, fs, rfl, h1, h2, _, rfl, p, v, a, rfl, hs.mono s', hav.mono s', fun H2 s2 => ?_⟩
      exact ⟨s'.trans s2, _, rfl⟩
    · rintro σ H' ⟨s', u, rfl⟩
      exact k _ s'
/-- the body that plus and plus_all share: require_amounts, total_in -/
theorem sc_plus : FnScope ["self", "amounts"] ["self", "amounts"] (defScope (inClass (top 20) 13)) := ⟨rfl, rfl, rfl, by decide +kernel, rfl, by decide +kernel, by decide +kernel⟩
theorem m_plus (T : Txt K mg C0 C1 C2 C3) (B : Abs P w K mg base C0 D) : Mf P w K mg base 7 D.C "plus" (spPlus D) := by
  obtain ⟨n, q0, q1, q2, q3, q4, q5, ct⟩ := B.ct
  have z : Mf P w K mg base 7 D.C "plus" (fun vs H Q E => ∃ v rest, vs = v :: rest ∧ rest.length ≤ 5 ∧ ∀ p, H p = none → spTot D [v, .ref p] (upd H p (.tup rest)) Q E) := by
    refine mfV_of (pa := "self") (pv := "amounts") (nmax := 5) ct.plus sc_plus (by decide) (fun kV doc pm an cdv ct => bindV_of (fun _ => rfl) (fun _ _ => rfl) (fun _ _ _ => rfl) (fun _ _ _ _ => rfl) (fun _ _ _ _ _ => rfl) (fun _ _ _ _ _ _ => rfl)) fun f cdv A outer s H vs Q E hr h => ?_
    obtain ⟨p, t, xs, l, z, rfl, hs, ht, hl, hok, hz, hlen, k⟩ := h
    refine ⟨_, pss_cons (ps_expr (pe_m (m_reqs T B) ct.cl hr (L2.pv 0) (pa_cons (L2.pv 1) pa_nil))) (pss_one (ps_ret (pe_m B.tot ct.cl hr (L2.pv 0) (pa_cons (L2.pv 1) pa_nil)))), ?_⟩
    obtain ⟨dx, fs, h1, h2⟩ := sc_recv (m := "require_amounts") hs (by decide +kernel)
    refine ⟨_, rfl, p, dx, fs, rfl, h1, h2, _, rfl, p, t, xs, l, rfl, hs, ht, hl, fun H' s' => ?_⟩
    obtain ⟨dx, fs, h1, h2⟩ := sc_recv (m := "total_in") (hs.mono s') (by decide +kernel)
    refine ⟨_, rfl, p, dx, fs, rfl, h1, h2, _, rfl, p, t, xs, l, z, rfl, hs.mono s', s' _ _ ht, Ams.mono s' hl, hok, hz, hlen, fun y H2 s2 hy => k y H2 (s'.trans s2) hy⟩
  obtain ⟨f, hm, F⟩ := z
  refine ⟨f, hm, F.imp fun vs H Q E h => ?_⟩
  obtain ⟨p, xs, l, s, rfl, hs, hl, hok, hz, hlen, k⟩ := h
  refine ⟨_, xs, rfl, by rw [hl.length]; exact hlen, fun t ht => ?_⟩
  have s1 : Same H (upd H t (.tup xs)) := Same.new ht
  exact ⟨p, t, xs, l, s, rfl, hs.mono s1, upd_same, Ams.mono s1 hl, hok, hz, by omega, fun y H2 s2 hy => k y H2 (s1.trans s2) hy⟩
theorem sc_plusA : FnScope ["self", "amounts"] ["self", "amounts"] (defScope (inClass (top 20) 14)) := ⟨rfl, rfl, rfl, by decide +kernel, rfl, by decide +kernel, by decide +kernel⟩
theorem m_plusA (T : Txt K mg C0 C1 C2 C3) (B : Abs P w K mg base C0 D) : Mf P w K mg base 7 D.C "plus_all" (spTot D) := by
  obtain ⟨n, q0, q1, q2, q3, q4, q5, ct⟩ := B.ct
  refine mf_of ct.plus_all sc_plusA (fun vs H Q E h => ?_) (fun _ _ _ _ _ _ us hl => match us, hl with | [_, _], _ => rfl) fun f cdv A outer s H vs Q E hr h => ?_
  · obtain ⟨p, t, xs, l, z, rfl, _⟩ := h
    rfl
  · obtain ⟨p, t, xs, l, z, rfl, hs, ht, hl, hok, hz, hlen, k⟩ := h
    refine ⟨_, pss_cons (ps_expr (pe_m (m_reqs T B) ct.cl hr (pv 0) (pa_cons (pv 1) pa_nil))) (pss_one (ps_ret (pe_m B.tot ct.cl hr (pv 0) (pa_cons (pv 1) pa_nil)))), ?_⟩
    obtain ⟨dx, fs, h1, h2⟩ := sc_recv (m := "require_amounts") hs (by decide +kernel)
    refine ⟨_, rfl, p, dx, fs, rfl, h1, h2, _, rfl, p, t, xs, l, rfl, hs, ht, hl, fun H' s' => ?_⟩
    obtain ⟨dx, fs, h1, h2⟩ := sc_recv (m := "total_in") (hs.mono s') (by decide +kernel)
    refine ⟨_, rfl, p, dx, fs, rfl, h1, h2, _, rfl, p, t, xs, l, z, rfl, hs.mono s', s' _ _ ht, Ams.mono s' hl, hok, hz, hlen, fun y H2 s2 hy => k y H2 (s'.trans s2) hy⟩
theorem sc_minus : FnScope ["self", "amount", "other"] ["self", "amount", "other"] (defScope (inClass (top 20) 15)) := ⟨rfl, rfl, rfl, by decide +kernel, rfl, by decide +kernel, by decide +kernel⟩
theorem m_minus (T : Txt K mg C0 C1 C2 C3) (B : Abs P w K mg base C0 D) : Mf P w K mg base 6 D.C "minus" (spMinus D) := by
  obtain ⟨n, q0, q1, q2, q3, q4, q5, ct⟩ := B.ct
  refine mf_of ct.minus sc_minus (fun vs H Q E h => ?_) (fun _ _ _ _ _ _ us hl => match us, hl with | [_, _, _], _ => rfl) fun f cdv A outer s H vs Q E hr h => ?_
  · obtain ⟨p, v, u, a, b, rfl, _⟩ := h
    rfl
  · obtain ⟨p, v, u, a, b, rfl, hs, ha, hb, oa, ob, k⟩ := h
    refine ⟨_, pss_cons (ps_expr (pe_m (m_req1 B) ct.cl hr (pv 0) (pa_cons (pv 1) pa_nil))) (pss_cons (ps_expr (pe_m (m_req1 B) ct.cl hr (pv 0) (pa_cons (pv 2) pa_nil)))
      (pss_one (ps_ret (pe_m B.add ct.cl hr (pv 0) (pa_cons (pv 1) (pa_cons (pe_m B.opp ct.cl hr (pv 0) (pa_cons (pv 2) pa_nil)) pa_nil)))))), ?_⟩
    obtain ⟨dx, fs, h1, h2⟩ := sc_recv (m := "require_amount") hs (by decide +kernel)
    refine ⟨_, rfl, p, dx, fs, rfl, h1, h2, _, rfl, p, v, a, rfl, hs, ha, fun H1 s1 => ?_⟩
    refine ⟨_, rfl, p, dx, fs, rfl, s1 _ _ h1, h2, _, rfl, p, u, b, rfl, hs.mono s1, hb.mono s1, fun H2 s2 => ?_⟩
    have s12 := s1.trans s2
    obtain ⟨dx, fs, h1, h2⟩ := sc_recv (m := "added") (hs.mono s12) (by decide +kernel)
    refine ⟨_, rfl, p, dx, fs, rfl, h1, h2, _, rfl, ?_⟩
    obtain ⟨dx, fs, h1, h2⟩ := sc_recv (m := "opposite") (hs.mono s12) (by decide +kernel)
    refine ⟨_, rfl, p, dx, fs, rfl, h1, h2, _, rfl, p, u, b, rfl, hs.mono s12, hb.mono s12, fun z H3 s3 hz => ?_⟩
    have s13 := s12.trans s3
    exact ⟨p, v, z, a, D.G.neg b, rfl, hs.mono s13, ha.mono s13, hz, oa, D.G.ok_neg _ _ ob, fun y H4 s4 hy => k y H4 (s13.trans s4) hy⟩
theorem sc_neg : FnScope ["self", "amount"] ["self", "amount"] (defScope (inClass (top 20) 16)) := ⟨rfl, rfl, rfl, by decide +kernel, rfl, by decide +kernel, by decide +kernel⟩
theorem m_neg (T : Txt K mg C0 C1 C2 C3) (B : Abs P w K mg base C0 D) : Mf P w K mg base 6 D.C "negative" (spOpp D) := by
  obtain ⟨n, q0, q1, q2, q3, q4, q5, ct⟩ := B.ct
  refine mf_of ct.negative sc_neg (fun vs H Q E h => ?_) (fun _ _ _ _ _ _ us hl => match us, hl with | [_, _], _ => rfl) fun f cdv A outer s H vs Q E hr h => ?_
  · obtain ⟨p, v, a, rfl, _⟩ := h
    rfl
  · obtain ⟨p, v, a, rfl, hs, ha, k⟩ := h
    refine ⟨_, pss_cons (ps_expr (pe_m (m_req1 B) ct.cl hr (pv 0) (pa_cons (pv 1) pa_nil))) (pss_one (ps_ret (pe_m B.opp ct.cl hr (pv 0) (pa_cons (pv 1) pa_nil)))), ?_⟩
    obtain ⟨dx, fs, h1, h2⟩ := sc_recv (m := "require_amount") hs (by decide +kernel)
    refine ⟨_, rfl, p, dx, fs, rfl, h1, h2, _, rfl, p, v, a, rfl, hs, ha, fun H1 s1 => ?_⟩
    obtain ⟨dx, fs, h1, h2⟩ := sc_recv (m := "opposite") (hs.mono s1) (by decide +kernel)
    exact ⟨_, rfl, p, dx, fs, rfl, h1, h2, _, rfl, p, v, a, rfl, hs.mono s1, ha.mono s1, fun z H3 s3 hz => k z H3 (s1.trans s3) hz⟩
theorem sc_twice : FnScope ["self", "amount"] ["self", "amount"] (defScope (inClass (top 20) 17)) := ⟨rfl, rfl, rfl, by decide +kernel, rfl, by decide +kernel, by decide +kernel⟩
theorem m_twice (T : Txt K mg C0 C1 C2 C3) (B : Abs P w K mg base C0 D) : Mf P w K mg base 6 D.C "twice" (spTwice D) := by
  obtain ⟨n, q0, q1, q2, q3, q4, q5, ct⟩ := B.ct
  refine mf_of ct.twice sc_twice (fun vs H Q E h => ?_) (fun _ _ _ _ _ _ us hl => match us, hl with | [_, _], _ => rfl) fun f cdv A outer s H vs Q E hr h => ?_
  · obtain ⟨p, v, a, rfl, _⟩ := h
    rfl
  · obtain ⟨p, v, a, rfl, hs, ha, oa, k⟩ := h
    refine ⟨_, pss_cons (ps_expr (pe_m (m_req1 B) ct.cl hr (pv 0) (pa_cons (pv 1) pa_nil))) (pss_one (ps_ret (pe_m B.add ct.cl hr (pv 0) (pa_cons (pv 1) (pa_cons (pv 1) pa_nil))))), ?_⟩
    obtain ⟨dx, fs, h1, h2⟩ := sc_recv (m := "require_amount") hs (by decide +kernel)
    refine ⟨_, rfl, p, dx, fs, rfl, h1, h2, _, rfl, p, v, a, rfl, hs, ha, fun H1 s1 => ?_⟩
    obtain ⟨dx, fs, h1, h2⟩ := sc_recv (m := "added") (hs.mono s1) (by decide +kernel)
    exact ⟨_, rfl, p, dx, fs, rfl, h1, h2, _, rfl, _, rfl, p, v, v, a, a, rfl, hs.mono s1, ha.mono s1, ha.mono s1, oa, oa, fun z H3 s3 hz => k z H3 (s1.trans s3) hz⟩
theorem sc_less : FnScope ["self", "amount", "other"] ["self", "amount", "other"] (defScope (inClass (top 20) 18)) := ⟨rfl, rfl, rfl, by decide +kernel, rfl, by decide +kernel, by decide +kernel⟩
theorem m_less (T : Txt K mg C0 C1 C2 C3) (B : Abs P w K mg base C0 D) : Mf P w K mg base 6 D.C "is_less" (spLess D) := by
  obtain ⟨n, q0, q1, q2, q3, q4, q5, ct⟩ := B.ct
  refine mf_of ct.is_less sc_less (fun vs H Q E h => ?_) (fun _ _ _ _ _ _ us hl => match us, hl with | [_, _, _], _ => rfl) fun f cdv A outer s H vs Q E hr h => ?_
  · obtain ⟨p, v, u, a, b, rfl, _⟩ := h
    rfl
  · obtain ⟨p, v, u, a, b, rfl, hs, ha, hb, oa, ob, k⟩ := h
    refine ⟨_, pss_cons (ps_expr (pe_m (m_req1 B) ct.cl hr (pv 0) (pa_cons (pv 1) pa_nil))) (pss_cons (ps_expr (pe_m (m_req1 B) ct.cl hr (pv 0) (pa_cons (pv 2) pa_nil)))
      (pss_one (ps_ret (pe_m B.bef ct.cl hr (pv 0) (pa_cons (pv 1) (pa_cons (pv 2) pa_nil)))))), ?_⟩
    obtain ⟨dx, fs, h1, h2⟩ := sc_recv (m := "require_amount") hs (by decide +kernel)
    refine ⟨_, rfl, p, dx, fs, rfl, h1, h2, _, rfl, p, v, a, rfl, hs, ha, fun H1 s1 => ?_⟩
    refine ⟨_, rfl, p, dx, fs, rfl, s1 _ _ h1, h2, _, rfl, p, u, b, rfl, hs.mono s1, hb.mono s1, fun H2 s2 => ?_⟩
    have s12 := s1.trans s2
    obtain ⟨dx, fs, h1, h2⟩ := sc_recv (m := "before") (hs.mono s12) (by decide +kernel)
    exact ⟨_, rfl, p, dx, fs, rfl, h1, h2, _, rfl, _, rfl, p, v, u, a, b, rfl, hs.mono s12, ha.mono s12, hb.mono s12, oa, ob, k _ s12⟩
theorem sc_sign : FnScope ["self", "amount"] ["self", "amount"] (defScope (inClass (top 20) 19)) := ⟨rfl, rfl, rfl, by decide +kernel, rfl, by decide +kernel, by decide +kernel⟩
theorem m_sign (T : Txt K mg C0 C1 C2 C3) (B : Abs P w K mg base C0 D) : Mf P w K mg base 6 D.C "sign" (spSign D) := by
  obtain ⟨n, q0, q1, q2, q3, q4, q5, ct⟩ := B.ct
  refine mf_of ct.sign sc_sign (fun vs H Q E h => ?_) (fun _ _ _ _ _ _ us hl => match us, hl with | [_, _], _ => rfl) fun f cdv A outer s H vs Q E hr h => ?_
  · obtain ⟨p, v, a, rfl, _⟩ := h
    rfl
  · obtain ⟨p, v, a, rfl, hs, ha, oa, k⟩ := h
    refine ⟨_, pss_cons (ps_expr (pe_m (m_req1 B) ct.cl hr (pv 0) (pa_cons (pv 1) pa_nil)))
      (pss_cons (ps_if (pt_cmpR (op_eqA hr) (pv 1) (pe_fld (pv 0) rfl) (nomark _)) (pss_one (ps_ret pe_int)) pss_nil)
      (pss_one (ps_ret (pe_ifExp (pt_val (pe_m B.bef ct.cl hr (pv 0) (pa_cons (pv 1) (pa_cons (pe_fld (pv 0) rfl) pa_nil)))) (pe_un un_neg pe_int) pe_int)))), ?_⟩
    obtain ⟨dx, fs, h1, h2⟩ := sc_recv (m := "require_amount") hs (by decide +kernel)
    refine ⟨_, rfl, p, dx, fs, rfl, h1, h2, _, rfl, p, v, a, rfl, hs, ha, fun H1 s1 => ?_⟩
    have hs1 := hs.mono s1
    have ha1 := ha.mono s1
    obtain ⟨dy, z, o, g1, g2⟩ := id hs1
    have kk := k H1 s1
    unfold sgI at kk
    refine ⟨_, rfl, _, rfl, p, D.C, dy, _, _, rfl, g1, ct.cl, ct.n2, fsc_zero _ _ _ _, _, _, ha1, g2, _, rfl, ?_⟩
    by_cases e : D.G.am a = D.G.am D.G.zero
    · rw [if_pos e] at kk
      rw [decide_eq_true e]
      exact iteT kk
    · rw [if_neg e] at kk
      rw [decide_eq_false e]
      refine iteF ?_
      obtain ⟨dx, fs, h1, h2⟩ := sc_recv (m := "before") hs1 (by decide +kernel)
      refine ⟨_, rfl, p, dx, fs, rfl, h1, h2, _, rfl, _, rfl, p, D.C, dy, _, _, rfl, g1, ct.cl, ct.n2, fsc_zero _ _ _ _, p, v, z, a, D.G.zero, rfl, hs1, ha1, g2, oa, ok3000, _, rfl, ?_⟩
      cases e2 : D.G.lt a D.G.zero with
      | true =>
        rw [e2, if_pos rfl] at kk
        exact iteT ⟨1, rfl, kk⟩
      | false =>
        rw [e2, if_neg Bool.false_ne_true] at kk
        exact iteF kk
theorem sc_cont : FnScope ["self", "value"] ["self", "value"] (defScope (inClass (top 20) 10)) := ⟨rfl, rfl, rfl, by decide +kernel, rfl, by decide +kernel, by decide +kernel⟩
theorem m_cont (B : Abs P w K mg base C0 D) : Mf P w K mg base 5 D.C "__contains__" (spForm D) := by
  obtain ⟨n, q0, q1, q2, q3, q4, q5, ct⟩ := B.ct
  refine mf_of ct.xcontainsx sc_cont (fun vs H Q E h => ?_) (fun _ _ _ _ _ _ us hl => match us, hl with | [_, _], _ => rfl) fun f cdv A outer s H vs Q E hr h => ?_
  · obtain ⟨p, v, a, rfl, _⟩ := h
    rfl
  · obtain ⟨p, v, a, rfl, hs, ha, k⟩ := h
    refine ⟨_, pss_one (ps_ret (pe_m B.form ct.cl hr (pv 0) (pa_cons (pv 1) pa_nil))), ?_⟩
    obtain ⟨dx, fs, h1, h2⟩ := sc_recv (m := "has_form") hs (by decide +kernel)
    exact ⟨_, rfl, p, dx, fs, rfl, h1, h2, _, rfl, p, v, a, rfl, hs, ha, k⟩
theorem sc_eq : FnScope ["self", "other"] ["self", "other"] (defScope (inClass (top 20) 25)) := ⟨rfl, rfl, rfl, by decide +kernel, rfl, by decide +kernel, by decide +kernel⟩
theorem m_eq (T : Txt K mg C0 C1 C2 C3) (B : Abs P w K mg base C0 D) : Mf P w K mg base 1 D.C "__eq__" (spEq D) := by
  obtain ⟨n, q0, q1, q2, q3, q4, q5, ct⟩ := B.ct
  refine mf_of ct.xeqx sc_eq (fun vs H Q E h => ?_) (fun _ _ _ _ _ _ us hl => match us, hl with | [_, _], _ => rfl) fun f cdv A outer s H vs Q E hr h => ?_
  · obtain ⟨p, q, rfl, _⟩ := h
    rfl
  · obtain ⟨p, q, rfl, ⟨dx, z, o, h1, h2⟩, ⟨dy, z', o', g1, g2⟩, k⟩ := h
    refine ⟨_, pss_one (ps_ret (pe_and (pe_callB call_isi rfl T.fisinstance boot_isinstance (pa_cons (pv 1) (pa_cons (pe_glob rfl T.mg0 (v := .ref C0) rfl) pa_nil)))
      (pe_and (pe_cmpR op_eq (pe_fld (pv 0) rfl) (pe_fld (pv 1) rfl) (nomark _)) (pe_one (pe_cmpR op_eq (pe_fld (pv 0) rfl) (pe_fld (pv 1) rfl) (nomark _)))))), ?_⟩
    refine ⟨_, rfl, _, _, _, _, true, rfl, .own _, .base (.ins g1 ct.cl ct.ca ct.cn ct.ct ct.cm), ct.kit, true, rfl, iteT ?_⟩
    refine ⟨_, rfl, p, D.C, dx, _, _, rfl, h1, ct.cl, ct.n0, fsc_word _ _ _ _, _, rfl, q, D.C, dy, _, _, rfl, g1, ct.cl, ct.n0, fsc_word _ _ _ _, rfl, _, rfl, ?_⟩
    rw [decide_eq_true rfl]
    refine iteT ⟨_, rfl, p, D.C, dx, _, _, rfl, h1, ct.cl, ct.n1, fsc_size _ _ _ _, _, rfl, q, D.C, dy, _, _, rfl, g1, ct.cl, ct.n1, fsc_size _ _ _ _, rfl, ?_⟩
    rw [decide_eq_true rfl]
    exact k
end
end Mo

set_option Elab.async false
set_option linter.all false
set_option maxRecDepth 100000
set_option maxHeartbeats 4000000
namespace Mo
open PySem PySem.Spec PyProof.Rows L2
/-! ### merged, ranked, order_of, greatest -/
def fI (G : Grp) (l : List G.α) (x y : Int) : Bool := G.lt (l.getD x.toNat G.zero) (l.getD y.toNat G.zero)
/-- lists of indices in the heap -/
abbrev RunsAt (H : Hp) (rs : List V) (runs : List (List Int)) : Prop := Paired (fun v ns => ∃ q, v = .ref q ∧ H q = some (.lst (ns.map V.int))) rs runs
theorem RunsAt.mono {H H' : Hp} (s : Same H H') : ∀ {rs : List V} {runs : List (List Int)}, RunsAt H rs runs → RunsAt H' rs runs
  | _, _, .nil => .nil
  | _, _, .cons ⟨q, e, h⟩ r => .cons ⟨q, e, s _ _ h⟩ (RunsAt.mono s r)
theorem getD_at {G : Grp} {l : List G.α} {x : Int} (h0 : 0 ≤ x) (h1 : x < (l.length : Int)) : l[x.toNat]? = some (l.getD x.toNat G.zero) := by
  have h : x.toNat < l.length := by omega
  rw [List.getD_eq_getElem?_getD, List.getElem?_eq_getElem h]
  rfl
theorem ams_ix {G : Grp} {H : Hp} {xs : List V} {l : List G.α} (hl : Ams G H xs l) {x : Int} (h0 : 0 ≤ x) (h1 : x < (l.length : Int)) : ∃ v, atI xs x = some v ∧ AmV H v (G.am (l.getD x.toNat G.zero)) := by
  obtain ⟨v, e, h⟩ := Paired.at2 hl (getD_at h0 h1)
  exact ⟨v, at_of (j := x.toNat) (by omega) e, h⟩
theorem mem_getD {G : Grp} {l : List G.α} {x : Int} (h0 : 0 ≤ x) (h1 : x < (l.length : Int)) : l.getD x.toNat G.zero ∈ l := List.mem_of_getElem? (getD_at h0 h1)
def spMerged (D : Kd) : Sp := fun vs H Q _ => ∃ p t r xs l rs runs, vs = [.ref p, .ref t, .ref r] ∧ ScAt D H p ∧ H t = some (.tup xs) ∧ Ams D.G H xs l ∧ (∀ x ∈ l, D.G.ok 3000 x) ∧ H r = some (.lst rs) ∧ RunsAt H rs runs ∧ (runs.length = 1 ∨ runs.length = 2) ∧
  (∀ r ∈ runs, ∀ x ∈ r, 0 ≤ x ∧ x < (l.length : Int)) ∧ runs.flatten.length ≤ 100 ∧ ∀ q ns H', Same H H' → pr (fI D.G l) runs = [ns] → H' q = some (.lst (ns.map V.int)) → Q (.ref q) H'
theorem mgs_stop {f : Int → Int → Bool} {x : Int} {r o : List Int} (h : ∀ y, o[0]? = some y → f x y = false) : mgs f (x :: r) o = x :: mgs f r o := by
  cases o with
  | nil => rfl
  | cons y t =>
    have e := h y rfl
    show (y :: t).takeWhile (f x) ++ x :: mgs f r ((y :: t).dropWhile (f x)) = _
    rw [List.takeWhile_cons, List.dropWhile_cons, e]
    rfl
theorem mgs_go {f : Int → Int → Bool} {x y : Int} {r o : List Int} (h : f x y = true) : mgs f (x :: r) (y :: o) = y :: mgs f (x :: r) o := by
  show (y :: o).takeWhile (f x) ++ x :: mgs f r ((y :: o).dropWhile (f x)) = y :: (o.takeWhile (f x) ++ x :: mgs f r (o.dropWhile (f x)))
  rw [List.takeWhile_cons, List.dropWhile_cons, h]
  rfl
theorem drop_at {l : List Int} {k : Nat} {y : Int} (h : l[k]? = some y) : l.drop k = y :: l.drop (k + 1) := by
  obtain ⟨hk, e⟩ := List.getElem?_eq_some_iff.mp h
  rw [List.drop_eq_getElem_cons hk, e]
section
variable {P : Program} {w : World} {K : PySem.W.Frag} {mg : Str → Option Value} {base : Heap} {C0 C1 C2 C3 : Addr} {D : Kd}
theorem sc_merged : FnScope ["self", "amounts", "runs", "one", "other", "found", "at", "index"] ["self", "amounts", "runs"] (defScope (inClass (top 20) 24)) := ⟨rfl, rfl, rfl, by decide +kernel, rfl, by decide +kernel, by decide +kernel⟩
theorem m_merged (T : Txt K mg C0 C1 C2 C3) (B : Abs P w K mg base C0 D) : Mf P w K mg base 5 D.C "merged" (spMerged D) := by
  obtain ⟨nn, q0, q1, q2, q3, q4, q5, ct⟩ := B.ct
  refine mf_of ct.merged sc_merged (fun vs H Q E h => ?_) (fun _ _ _ _ _ _ us hl => match us, hl with | [_, _, _], _ => rfl) fun f cdv A outer s H vs Q E hr h => ?_
  · obtain ⟨p, t, r, xs, l, rs, runs, rfl, _⟩ := h
    rfl
  · obtain ⟨p, t, r, xs, l, rs, runs, rfl, hs, ht, hl, hok, hrl, hra, h12, hin, h100, k⟩ := h
    have hrlen : rs.length = runs.length := hra.length
    refine ⟨_, pss_cons (ps_if (pt_cmpR op_eq (pe_callB call_len_seq rfl T.flen PySem.boot_len (pa_cons (pv 2) pa_nil)) pe_int (nomark _)) (pss_one (ps_ret (pe_ix ix_list (pv 2) pe_int (fun _ _ => rfl)))) pss_nil)
      (pss_cons (ps_asg (pe_tup (pa_cons (pv 2) (pa_cons (pe_lst pa_nil) (pa_cons pe_int pa_nil)))) (pg_tup rfl (pgs_cons (pg_unl rfl (pgs_cons (pg_name (i := 3) sc_merged.nd rfl (Or.inl rfl)) (pgs_cons (pg_name (i := 4) sc_merged.nd rfl (Or.inl rfl)) pgs_nil)))
        (pgs_cons (pg_name (i := 5) sc_merged.nd rfl (Or.inl rfl)) (pgs_cons (pg_name (i := 6) sc_merged.nd rfl (Or.inl rfl)) pgs_nil)))))
      (pss_cons (ps_for PassesOwn.never rfl (pi_list (pv 3)) (pg_name (i := 7) sc_merged.nd rfl (Or.inl rfl))
        (pss_cons (ps_while PassesOwn.never (PW.pt (pw_and (pt_cmpR op_lt (pv 6) (pe_callB call_len_seq rfl T.flen PySem.boot_len (pa_cons (pv 4) pa_nil)) (nomark _))
            (pw_and1 (pt_val (pe_m B.bef ct.cl hr (pv 0) (pa_cons (pe_ix ix_tup (pv 1) (pv 7) (fun _ _ => rfl)) (pa_cons (pe_ix ix_tup (pv 1) (pe_ix ix_list (pv 4) (pv 6) (fun _ _ => rfl)) (fun _ _ => rfl)) pa_nil)))))))
          (pss_cons (ps_expr (pe_bm PySem.F.plainAttrs_list PySem.F.slot_list_append PySem.F.type_list_append mt_append (pv 5) (pa_cons (pe_ix ix_list (pv 4) (pv 6) (fun _ _ => rfl)) pa_nil))) (pss_one (ps_aug (i := 6) sc_merged.nd rfl (.inl rfl) pe_int ip_add))))
        (pss_one (ps_expr (pe_bm PySem.F.plainAttrs_list PySem.F.slot_list_append PySem.F.type_list_append mt_append (pv 5) (pa_cons (pv 7) pa_nil))))))
      (pss_one (ps_ret (pe_op op_cat (pv 5) (pe_slice sl_list (pv 4) (po_some (pv 6)) po_none)))))), ?_⟩
    refine ⟨_, rfl, r, _, rfl, .inl (SqL.of hrl), rfl, _, rfl, ?_⟩
    rcases h12 with h1 | h2
    · -- one run
      match runs, h1, rs, hra, hrlen with
      | [a], _, [v], .cons ⟨q, e, hq⟩ .nil, _ =>
        refine iteT ⟨_, rfl, r, _, _, _, rfl, rfl, SqL.of hrl, atI_nat rfl, ?_⟩
        subst e
        exact k q a H (Same.refl _) rfl hq
    · match runs, h2, rs, hra, hrlen with
      | [one, other], _, [v1, v2], .cons ⟨r1, e1, h1⟩ (.cons ⟨r2, e2, h2⟩ .nil), _ =>
        subst e1 e2
        refine iteF ⟨_, rfl, Nat.zero_le _, fun F hF => ⟨(by show 3 ≤ sizeLine; decide), fun tp htp => ?_⟩⟩
        have sF : Same H (upd H F (.lst [])) := Same.new hF
        have s1 : Same H (upd (upd H F (.lst [])) tp (.tup [.ref r, .ref F, .int 0])) := Same.upd sF htp
        have hFt : F ≠ tp := fun z => by
          rw [← z, upd_same] at htp
          cases htp
        have hF1 : (upd (upd H F (.lst [])) tp (.tup [.ref r, .ref F, .int 0])) F = some (.lst []) := by rw [upd_ne hFt, upd_same]
        refine ⟨tp, _, rfl, SqT.of upd_same, rfl, _, _, rfl, ⟨r, _, rfl, SqL.of (s1 _ _ hrl), rfl, _, _, rfl, _, _, rfl, rfl, _, _, rfl, _, _, rfl, rfl, ?_⟩⟩
        generalize upd (upd H F (.lst [])) tp (.tup [.ref r, .ref F, .int 0]) = H1 at s1 hF1
        have i1 : ∀ x ∈ one, 0 ≤ x ∧ x < (l.length : Int) := hin one (List.mem_cons_self ..)
        have i2 : ∀ x ∈ other, 0 ≤ x ∧ x < (l.length : Int) := hin other (List.mem_cons_of_mem _ (List.mem_cons_self ..))
        have hlen12 : one.length + other.length ≤ 100 := by
          have e : ([one, other] : List (List Int)).flatten.length = one.length + other.length := by simp
          omega
        refine ⟨_, rfl, r1, rfl, ⟨_, SqL.of (s1 _ _ h1)⟩, for_list (K := K) (a := r1) (xs := one.map V.int) (fun i σ H' => Same H H' ∧ ∃ (fs : List Int) (kk : Nat) (v : Option V), σ = [some (.ref p), some (.ref t), some (.ref r), some (.ref r1), some (.ref r2), some (.ref F), some (.int (kk : Int)), v] ∧
            kk ≤ other.length ∧ H' F = some (.lst (fs.map V.int)) ∧ fs ++ mgs (fI D.G l) (one.drop i) (other.drop kk) = mgs (fI D.G l) one other) ⟨s1, [], 0, none, rfl, Nat.zero_le _, hF1, rfl⟩ (fun i σ H' _ ⟨s', _⟩ => SqL.of (s' _ _ h1)) ?_ ?_⟩
        · rintro i v σ H' hv ⟨s', fs, kk, u, rfl, hk, hFf, hm⟩
          obtain ⟨x, hx, rfl⟩ := map_at hv
          have hix := i1 x (List.mem_of_getElem? hx)
          rw [drop_at hx] at hm
          refine ⟨fun m σ H' => m = (match σ with
            | [_, _, _, _, _, _, some (.int kk), _] => other.length - kk.toNat
            | _ => 0) ∧ Same H H' ∧ ∃ (fs : List Int) (kk : Nat), σ = [some (.ref p), some (.ref t), some (.ref r), some (.ref r1), some (.ref r2), some (.ref F), some (.int (kk : Int)), some (.int x)] ∧
            kk ≤ other.length ∧ H' F = some (.lst (fs.map V.int)) ∧ fs ++ mgs (fI D.G l) (x :: one.drop (i + 1)) (other.drop kk) = mgs (fI D.G l) one other, ⟨_, rfl, s', fs, kk, rfl, hk, hFf, hm⟩, ?_⟩
          rintro m σ H2 ⟨rfl, s2, fs, kk, rfl, hk, hFf, hm⟩
          have hfl : fs.length ≤ 100 := by
            have e := congrArg List.length hm
            rw [List.length_append, len_mgs, len_mgs] at e
            omega
          -- found.append(index), the loop's next turn
          have out : (∀ y, (other.drop kk)[0]? = some y → fI D.G l x y = false) → ∃ l' xs' y', V.ref F = .ref l' ∧ [V.int x] = [y'] ∧ H2 l' = some (.lst xs') ∧ xs'.length < sizeLine ∧ (Same H (upd H2 l' (.lst (xs' ++ [y']))) ∧ ∃ (fs : List Int) (k2 : Nat) (v : Option V), [some (.ref p), some (.ref t), some (.ref r), some (.ref r1), some (.ref r2), some (.ref F), some (.int (kk : Int)), some (.int x)] = [some (.ref p), some (.ref t), some (.ref r), some (.ref r1), some (.ref r2), some (.ref F), some (.int (k2 : Int)), v] ∧
              k2 ≤ other.length ∧ (upd H2 l' (.lst (xs' ++ [y']))) F = some (.lst (fs.map V.int)) ∧ fs ++ mgs (fI D.G l) (one.drop (i + 1)) (other.drop k2) = mgs (fI D.G l) one other) := by
            intro hst
            refine ⟨F, _, _, rfl, rfl, hFf, ?_, ⟨fun c o q => by rw [upd_ne (fun z => by rw [z, hF] at q; cases q)]; exact s2 _ _ q, fs ++ [x], kk, _, rfl, hk, ?_, ?_⟩⟩
            · rw [List.length_map]
              exact small1000 (by omega)
            · rw [upd_same, List.map_append]
              rfl
            · rw [← hm, mgs_stop hst, List.append_assoc]
              rfl
          refine ⟨_, rfl, _, rfl, r2, _, rfl, .inl (SqL.of (s2 _ _ h2)), _, _, rfl, rfl, _, rfl, ?_⟩
          by_cases hlt : kk < other.length
          · have hlt' : ((kk : Int) < ((other.map V.int).length : Int)) := by rw [List.length_map]; omega
            rw [decide_eq_true hlt']
            obtain ⟨y, hy⟩ : ∃ y, other[kk]? = some y := ⟨_, List.getElem?_eq_getElem hlt⟩
            have hiy := i2 y (List.mem_of_getElem? hy)
            obtain ⟨vx, ex, ax⟩ := ams_ix (Ams.mono s2 hl) hix.1 hix.2
            obtain ⟨vy, ey, ay⟩ := ams_ix (Ams.mono s2 hl) hiy.1 hiy.2
            have ekk : atI (other.map V.int) (kk : Int) = some (.int y) := by
              refine atI_nat ?_
              rw [List.getElem?_map, hy]
              rfl
            obtain ⟨dx, ff, g1, g2⟩ := sc_recv (m := "before") (hs.mono s2) (by decide +kernel)
            refine iteT ⟨_, rfl, p, dx, ff, rfl, g1, g2, _, rfl, _, rfl, t, _, _, _, rfl, rfl, SqT.of (s2 _ _ ht), ex, _, rfl, _, rfl, _, rfl, r2, _, _, _, rfl, rfl, SqL.of (s2 _ _ h2), ekk, t, _, _, _, rfl, rfl, SqT.of (s2 _ _ ht), ey,
              p, vx, vy, _, _, rfl, hs.mono s2, ax, ay, hok _ (mem_getD hix.1 hix.2), hok _ (mem_getD hiy.1 hiy.2), _, rfl, ?_⟩
            cases hb : fI D.G l x y with
            | true =>
              have hb' : D.G.lt (l.getD x.toNat D.G.zero) (l.getD y.toNat D.G.zero) = true := hb
              rw [hb']
              refine iteT ⟨fun σ' H3 => (Same H H3 ∧ ∃ (fs : List Int) (k2 : Nat), σ' = [some (.ref p), some (.ref t), some (.ref r), some (.ref r1), some (.ref r2), some (.ref F), some (.int (k2 : Int)), some (.int x)] ∧
                k2 ≤ other.length ∧ k2 = kk + 1 ∧ H3 F = some (.lst (fs.map V.int)) ∧ fs ++ mgs (fI D.G l) (x :: one.drop (i + 1)) (other.drop k2) = mgs (fI D.G l) one other), ?_, ?_⟩
              · rintro σ' H3 ⟨s3, fs', k2, rfl, hk2, e2, hF3, hm3⟩
                refine ⟨_, ?_, rfl, s3, fs', k2, rfl, hk2, hF3, hm3⟩
                show other.length - ((k2 : Int)).toNat < other.length - ((kk : Int)).toNat
                omega
              · refine ⟨_, rfl, .inl ⟨rfl, _, SqL.of hFf⟩, _, rfl, _, rfl, r2, _, _, _, rfl, rfl, SqL.of (s2 _ _ h2), ekk, F, _, _, rfl, rfl, hFf, ?_, ?_⟩
                · rw [List.length_map]
                  exact small1000 (by omega)
                · refine ⟨_, rfl, _, _, rfl, rfl, ?_⟩
                  refine ⟨fun c o q => by rw [upd_ne (fun z => by rw [z, hF] at q; cases q)]; exact s2 _ _ q, fs ++ [y], kk + 1, rfl, hlt, rfl, ?_, ?_⟩
                  · rw [upd_same, List.map_append]
                    rfl
                  · rw [← hm, drop_at hy, mgs_go hb, List.append_assoc]
                    rfl
            | false =>
              have hb' : D.G.lt (l.getD x.toNat D.G.zero) (l.getD y.toNat D.G.zero) = false := hb
              rw [hb']
              refine iteF ⟨_, rfl, .inl ⟨rfl, _, SqL.of hFf⟩, _, rfl, out fun y' hy' => ?_⟩
              rw [drop_at hy] at hy'
              have e : y = y' := Option.some.inj hy'
              rw [← e]
              exact hb
          · have hlt' : ¬ ((kk : Int) < ((other.map V.int).length : Int)) := by rw [List.length_map]; omega
            rw [decide_eq_false hlt']
            refine iteF (iteF ⟨_, rfl, .inl ⟨rfl, _, SqL.of hFf⟩, _, rfl, out fun y' hy' => ?_⟩)
            rw [List.drop_of_length_le (by omega)] at hy'
            cases hy'
        · rintro σ H' ⟨s', fs, kk, u, rfl, hk, hFf, hm⟩
          rw [List.length_map, List.drop_length] at hm
          have hfl : fs.length + (other.drop kk).length ≤ 100 := by
            have e := congrArg List.length hm
            rw [List.length_append, len_mgs, len_mgs] at e
            have e2 : ([] : List Int).length = 0 := rfl
            omega
          have ec : cutV (other.map V.int) (some (kk : Int)) none = (other.drop kk).map V.int := by
            unfold cutV
            rw [List.length_map, HT.sIx_nat, HT.sIx_none, Nat.min_eq_left hk, List.take_of_length_le (by rw [List.length_drop, List.length_map]; omega), List.map_drop]
          refine ⟨_, rfl, _, rfl, _, rfl, _, rfl, r2, _, rfl, SqL.of (s' _ _ h2), fun q hq => ?_⟩
          rw [ec]
          have hFq : F ≠ q := ne_of_none hFf hq
          refine ⟨F, q, _, _, rfl, rfl, by rw [upd_ne hFq]; exact hFf, upd_same, ?_, fun z hz => ?_⟩
          · rw [List.length_map, List.length_map]
            exact Nat.le_of_lt (small1000 (by omega))
          · refine k z (mgs (fI D.G l) one other) _ (Same.upd (Same.upd s' hq) hz) rfl ?_
            rw [upd_same, ← hm, List.map_append]
            rfl
end
end Mo

set_option Elab.async false
set_option linter.all false
set_option maxRecDepth 100000
set_option maxHeartbeats 4000000
namespace Mo
open PySem PySem.Spec PyProof.Rows L2
/-! ### ranked, order_of, greatest, is_weight, zero -/
theorem rg2 : ∀ n : Nat, n < 101 → Builtin.Range.small 0 (n : Int) 2 = true ∧ Builtin.Range.rangeSize 0 (n : Int) 2 = (n + 1) / 2 := by decide +kernel
theorem pr_part (f : Int → Int → Bool) : ∀ (j : Nat) (runs : List (List Int)), pr f ((runs.drop (2 * j)).take 2) = ((pr f runs).drop j).take 1
  | 0, [] => rfl
  | 0, [a] => rfl
  | 0, a :: b :: r => rfl
  | j + 1, [] => by simp [pr]
  | j + 1, [a] => by
    have e : 2 * (j + 1) = 2 * j + 1 + 1 := by omega
    rw [e]
    simp [pr]
  | j + 1, a :: b :: r => by
    have e : 2 * (j + 1) = 2 * j + 1 + 1 := by omega
    rw [e]
    show pr f ((r.drop (2 * j)).take 2) = ((pr f r).drop j).take 1
    exact pr_part f j r
theorem Paired.takeP {α β : Type} {F : α → β → Prop} : ∀ {xs : List α} {ys : List β} (n : Nat), Paired F xs ys → Paired F (xs.take n) (ys.take n)
  | _, _, 0, _ => by
    rw [List.take_zero, List.take_zero]
    exact .nil
  | _, _, n + 1, .nil => .nil
  | _, _, n + 1, .cons h r => .cons h (Paired.takeP n r)
theorem Paired.dropP {α β : Type} {F : α → β → Prop} : ∀ {xs : List α} {ys : List β} (n : Nat), Paired F xs ys → Paired F (xs.drop n) (ys.drop n)
  | _, _, 0, h => h
  | _, _, n + 1, .nil => .nil
  | _, _, n + 1, .cons h r => Paired.dropP n r
theorem dp_run (K : PySem.W.Frag) {H : Hp} : ∀ {rs : List V} {runs : List (List Int)}, RunsAt H rs runs → DpAll K H rs (runs.map fun ns => .list (ns.map .int))
  | _, _, .nil => .nil
  | _, _, .cons ⟨q, e, h⟩ r => by
    subst e
    exact .cons (.lst (SqL.of h) (dpAll_ints K H _)) (dp_run K r)
theorem lay_runs : ∀ runs : List (List Int), PyData.canLayAll0 (runs.map fun ns => .list (ns.map .int)) = true
  | [] => by simp [PyData.canLayAll0]
  | a :: r => by simp [PyData.canLayAll0, PyData.canLay0, canLay_ints, lay_runs r]
theorem depth_runs : ∀ runs : List (List Int), PyData.depthAll (runs.map fun ns => .list (ns.map .int)) ≤ 1
  | [] => by simp [PyData.depthAll]
  | a :: r => by
    have ih := depth_runs r
    simp only [List.map_cons, PyData.depthAll, PyData.depth, depth_ints]
    omega
theorem shaped_runs (runs : List (List Int)) : SeqAt.shaped (.list (runs.map fun ns => .list (ns.map .int))) = true := by
  have h := depth_runs runs
  simp only [SeqAt.shaped, PyData.canLay0, lay_runs, PyData.depth, Bool.true_and]
  exact decide_eq_true (by omega)
/-- a list of lists is not one of its lists -/
theorem run_ne {H : Hp} {R0 q : Addr} {acc : List V} {runs : List (List Int)} {ns : List Int} (ha : RunsAt H acc runs) (h0 : H R0 = some (.lst acc)) (hq : H q = some (.lst (ns.map V.int))) (hne : ns ≠ []) : q ≠ R0 := by
  intro e
  rw [e, h0] at hq
  have e2 := HO.lst.inj (Option.some.inj hq)
  cases ns with
  | nil => exact hne rfl
  | cons x r =>
    cases ha with
    | nil => cases e2
    | cons hx _ =>
      obtain ⟨c, ec, _⟩ := hx
      rw [ec] at e2
      cases e2
theorem runs_keep {H H' : Hp} {R0 : Addr} {acc : List V} {runs0 : List (List Int)} (ha : RunsAt H acc runs0) (h0 : H R0 = some (.lst acc)) (s : ∀ c o, c ≠ R0 → H c = some o → H' c = some o) : ∀ {rs : List V} {runs : List (List Int)}, RunsAt H rs runs → (∀ r ∈ runs, r ≠ []) → RunsAt H' rs runs
  | _, _, .nil, _ => .nil
  | _, _, .cons ⟨c, ec, hc⟩ r, hne => .cons ⟨c, ec, s _ _ (run_ne ha h0 hc (hne _ (List.mem_cons_self ..))) hc⟩ (runs_keep ha h0 s r fun q hq => hne q (List.mem_cons_of_mem _ hq))
theorem cut_two (xs : List V) (j : Nat) : cutV xs (some ((2 * j : Nat) : Int)) (some (((2 * j : Nat) : Int) + 2)) = (xs.drop (2 * j)).take 2 := by
  have e : (((2 * j : Nat) : Int) + 2) = ((2 * j + 2 : Nat) : Int) := rfl
  unfold cutV
  rw [e, HT.sIx_nat, HT.sIx_nat]
  by_cases h : 2 * j + 2 ≤ xs.length
  · rw [Nat.min_eq_left h, Nat.min_eq_left (by omega)]
    congr 1
    omega
  · by_cases h2 : 2 * j ≤ xs.length
    · rw [Nat.min_eq_left h2, Nat.min_eq_right (by omega), List.take_of_length_le (by rw [List.length_drop]; omega), List.take_of_length_le (by rw [List.length_drop]; omega)]
    · rw [Nat.min_eq_right (by omega : xs.length ≤ 2 * j), List.drop_length, List.drop_of_length_le (by omega), List.take_nil, List.take_nil]
def spRanked (D : Kd) : Sp := fun vs H Q _ => ∃ p t xs l, vs = [.ref p, .ref t] ∧ ScAt D H p ∧ H t = some (.tup xs) ∧ Ams D.G H xs l ∧ (∀ x ∈ l, D.G.ok 3000 x) ∧ 0 < l.length ∧ l.length ≤ 100 ∧
  ∀ q H', Same H H' → H' q = some (.tup ((rank (fI D.G l) l.length).map V.int)) → Q (.ref q) H'
/-- the greatest one: by the first index of the ranking -/
def top1 (G : Grp) (l : List G.α) : G.α := l.getD ((rank (fI G l) l.length).headD 0).toNat G.zero
def spGreatest (D : Kd) : Sp := fun vs H Q _ => ∃ p xs l, vs = .ref p :: xs ∧ ScAt D H p ∧ Ams D.G H xs l ∧ (∀ x ∈ l, D.G.ok 3000 x) ∧ 0 < l.length ∧ l.length ≤ 5 ∧
  ∀ z H', Same H H' → AmV H' z (D.G.am (top1 D.G l)) → Q z H'
def spGreat2 (D : Kd) : Sp := fun vs H Q _ => ∃ p t xs l, vs = [.ref p, .ref t] ∧ ScAt D H p ∧ H t = some (.tup xs) ∧ Ams D.G H xs l ∧ (∀ x ∈ l, D.G.ok 3000 x) ∧ 0 < l.length ∧ l.length ≤ 100 ∧
  ∀ z H', Same H H' → AmV H' z (D.G.am (top1 D.G l)) → Q z H'
def spIsW (D : Kd) : Sp := fun vs H Q _ => ∃ p v a, vs = [.ref p, v] ∧ ScAt D H p ∧ D.G = gOdd ∧ AmV H v (gOdd.am a) ∧ isW a ∧ ∀ H', Same H H' → Q (.bl true) H'
section
variable {P : Program} {w : World} {K : PySem.W.Frag} {mg : Str → Option Value} {base : Heap} {C0 C1 C2 C3 : Addr} {D : Kd}
theorem sc_ranked : FnScope ["self", "amounts", "runs", "index", "at"] ["self", "amounts"] (defScope (inClass (top 20) 23)) := ⟨rfl, rfl, rfl, by decide +kernel, rfl, by decide +kernel, by decide +kernel⟩
theorem m_ranked (T : Txt K mg C0 C1 C2 C3) (B : Abs P w K mg base C0 D) : Mf P w K mg base 7 D.C "ranked" (spRanked D) := by
  obtain ⟨nn, q0, q1, q2, q3, q4, q5, ct⟩ := B.ct
  refine mf_of ct.ranked sc_ranked (fun vs H Q E h => ?_) (fun _ _ _ _ _ _ us hl => match us, hl with | [_, _], _ => rfl) fun f cdv A outer s H vs Q E hr h => ?_
  · obtain ⟨p, t, xs, l, rfl, _⟩ := h
    rfl
  · obtain ⟨p, t, xs, l, rfl, hs, ht, hl, hok, h0, h100, k⟩ := h
    have hll : xs.length = l.length := hl.length
    refine ⟨_, pss_cons (ps_expr (pe_m (m_reqs T B) ct.cl hr (pv 0) (pa_cons (pv 1) pa_nil)))
      (pss_cons (ps_set (i := 2) sc_ranked.nd rfl (Or.inr rfl) (pe_lc (own := [("index", 3)]) (g := gName 3) (tt := tYes) rfl sc_ranked.nd (pi_range1 rfl T.frange (pa_cons (pe_callB call_len_seq rfl T.flen PySem.boot_len (pa_cons (pv 1) pa_nil)) pa_nil))
          (blkOk_by (own := [("index", 3)]) (N := ["self", "amounts", "runs", "index", "at"]) (sc := defScope (inClass (top 20) 23)) (by decide +kernel))
            (fun _ _ _ _ _ => pg_name (i := 3) sc_ranked.nd rfl (Or.inl rfl)) (fun _ _ _ _ _ => pts_nil) (fun _ _ _ _ _ => pe_lst (pa_cons (pv 3) pa_nil))))
      (pss_cons (ps_while PassesOwn.never (pt_cmpR op_gt (pe_callB call_len_seq rfl T.flen PySem.boot_len (pa_cons (pv 2) pa_nil)) pe_int (nomark _))
        (pss_one (ps_set (i := 2) sc_ranked.nd rfl (Or.inr rfl) (pe_lc (own := [("at", 4)]) (g := gName 4) (tt := tYes) (te := tM D.C "merged" (spMerged D) (tVar 0) (tCons (tVar 1) (tCons (tSl (rSlL K) (tVar 2) (tPart (tVar 4)) (tPart (tOp (rI0 fun i j => .int (i + j)) (tVar 4) (tC (.int 2))))) tNil))) rfl sc_ranked.nd (pi_range3 rfl T.frange (pa_cons pe_int (pa_cons (pe_callB call_len_seq rfl T.flen PySem.boot_len (pa_cons (pv 2) pa_nil)) (pa_cons pe_int pa_nil))))
          (blkOk_by (own := [("at", 4)]) (N := ["self", "amounts", "runs", "index", "at"]) (sc := defScope (inClass (top 20) 23)) (by decide +kernel))
            (fun _ _ _ _ _ => pg_name (i := 4) sc_ranked.nd rfl (Or.inl rfl)) (fun _ _ _ _ _ => pts_nil)
            (fun s1 H1 c1 cl1 fp1 => ?_)))))
      (pss_one (ps_ret (pe_ifExp (pt_cmpR (op_neD hr.units) (pv 2) (pe_lst pa_nil) (nomark _)) (pe_callTy call_tuple_of rfl T.ftuple boot_tuple (pa_cons (pe_ix ix_list (pv 2) pe_int (fun _ _ => rfl)) pa_nil)) (pe_tup pa_nil)))))), ?_⟩
    · exact pe_m (m_merged T B) ct.cl hr (pv 0) (pa_cons (pv 1) (pa_cons (pe_slice sl_list (pv 2) (po_some (pv 4)) (po_some (pe_op op_add (pv 4) pe_int))) pa_nil))
    obtain ⟨dx, fs, h1, h2⟩ := sc_recv (m := "require_amounts") hs (by decide +kernel)
    refine ⟨_, rfl, p, dx, fs, rfl, h1, h2, _, rfl, p, t, xs, l, rfl, hs, ht, hl, fun H1 s1 => ?_⟩
    -- runs = [[index] for index in range(len(amounts))]
    have ht1 := s1 _ _ ht
    refine ⟨_, rfl, t, _, rfl, .inr (SqT.of ht1), (xs.length : Int), rfl, by omega, by omega, fun R0 hR0 => ?_⟩
    refine lc_range (lo := 0) (n := ((xs.length : Int)).toNat) (fun i H2 => Same H1 H2 ∧ ∃ acc, H2 R0 = some (.lst acc) ∧ RunsAt H2 acc (runs0 i)) ⟨Same.new hR0, [], upd_same, .nil⟩ ?_ ?_
    · rintro i H2 hi ⟨s2, acc, hacc, hra⟩
      refine ⟨rfl, _, rfl, (by show 1 ≤ sizeLine; decide), fun q hq => ?_⟩
      have hRq : R0 ≠ q := ne_of_none hacc hq
      have hal : acc.length = i := by
        have := hra.length
        rw [runs0_len] at this
        exact this
      refine ⟨acc, by rw [upd_ne hRq]; exact hacc, small1000 (by omega), ?_⟩
      have s3 : Same H2 (upd H2 q (.lst [V.int (0 + (i : Int))])) := Same.new hq
      have s4 : ∀ o, Same H1 (upd (upd H2 q (.lst [V.int (0 + (i : Int))])) R0 o) := fun o c u e => by
        rw [upd_ne (fun z => by rw [z, hR0] at e; cases e)]
        exact s3 _ _ (s2 _ _ e)
      refine ⟨s4 _, _, upd_same, ?_⟩
      have e0 : runs0 (i + 1) = runs0 i ++ [[(i : Int)]] := by
        unfold runs0
        rw [List.range_succ, List.map_append]
        rfl
      rw [e0]
      exact (runs_keep hra hacc (fun c o hc e => by rw [upd_ne hc]; exact s3 _ _ e) hra fun r hr => ((runs0_ok i).1 r hr).1).snoc ⟨q, rfl, by rw [upd_ne hRq.symm, upd_same, Int.zero_add]; rfl⟩
    · rintro H2 ⟨s2, acc, hacc, hra⟩
      have en : ((xs.length : Int)).toNat = l.length := by omega
      rw [en] at hra
      refine ⟨fun m σ H' => Same H H' ∧ ∃ (R : Addr) (rs : List V) (runs : List (List Int)), σ = [some (.ref p), some (.ref t), some (.ref R), none, none] ∧ m = runs.length ∧ H' R = some (.lst rs) ∧ RunsAt H' rs runs ∧ RunsOk l.length runs ∧ 0 < runs.length ∧ runs.length ≤ 100 ∧ rkW (fI D.G l) runs = rkW (fI D.G l) (runs0 l.length), ⟨_, s1.trans s2, R0, acc, runs0 l.length, rfl, rfl, hacc, hra, runs0_ok _, by rw [runs0_len]; exact h0, by rw [runs0_len]; exact h100, rfl⟩, ?_⟩
      rintro m σ H3 ⟨s3, R, rs, runs, rfl, rfl, hR, hrs, hrok, hr0, hr100, hrk⟩
      have hrl : rs.length = runs.length := hrs.length
      refine ⟨_, rfl, R, _, rfl, .inl (SqL.of hR), _, _, rfl, rfl, _, rfl, ?_⟩
      by_cases hgt : 1 < runs.length
      · have hgt' : ((rs.length : Int) > 1) := by omega
        rw [decide_eq_true hgt']
        obtain ⟨rg1, rg2⟩ := rg2 runs.length (by omega)
        have rg2' : Builtin.Range.rangeSize 0 (rs.length : Int) 2 = (((runs.length + 1) / 2 : Nat) : Int) := by rw [hrl, rg2]; rfl
        refine iteT ⟨fun σ' H4 => Same H H4 ∧ ∃ (R : Addr) (rs2 : List V), σ' = [some (.ref p), some (.ref t), some (.ref R), none, none] ∧ H4 R = some (.lst rs2) ∧ RunsAt H4 rs2 (pr (fI D.G l) runs), ?_, ?_⟩
        · rintro σ' H4 ⟨s4, R', rs2, rfl, hR', hrs'⟩
          have hpl := pr_len (fI D.G l) runs
          refine ⟨_, ?_, s4, R', rs2, pr (fI D.G l) runs, rfl, rfl, hR', hrs', hrok.pr, by omega, by omega, ?_⟩
          · omega
          · exact (rkW_step (f := fI D.G l) (runs := runs) (by omega)).symm.trans hrk
        · refine ⟨_, rfl, R, _, rfl, .inl (SqL.of hR), 0, (rs.length : Int), 2, (runs.length + 1) / 2, rfl, ⟨by decide, by decide, by rw [hrl]; exact rg1, rg2'⟩, fun R1 hR1 => ?_⟩
          have sR1 : Same H3 (upd H3 R1 (.lst [])) := Same.new hR1
          refine lc_it (walk_rangeC (lo := 0) (c := 2)) (fun j H4 => Same H3 H4 ∧ ∃ acc, H4 R1 = some (.lst acc) ∧ RunsAt H4 acc ((pr (fI D.G l) runs).take j)) ⟨sR1, [], upd_same, .nil⟩ (fun _ _ _ _ => trivial) ?_ ?_
          · rintro j v H0 H4 hj ⟨s4, acc, hacc, hra⟩ ⟨rfl, rfl⟩
            have hpl := pr_len (fI D.G l) runs
            have hal := hra.length
            rw [List.length_take, Nat.min_eq_left (by omega)] at hal
            have eat : (0 + ((j : Nat) : Int) * 2) = ((2 * j : Nat) : Int) := by omega
            dsimp only
            rw [eat]
            obtain ⟨dx2, fs2, g1, g2⟩ := sc_recv (m := "merged") (hs.mono (s3.trans s4)) (by decide +kernel)
            have hR4 := s4 _ _ hR
            have ht4 := s4 _ _ (s3 _ _ ht)
            refine ⟨rfl, _, rfl, p, dx2, fs2, rfl, g1, g2, _, rfl, _, rfl, _, rfl, _, rfl, _, rfl, _, _, rfl, rfl, _, rfl, R, _, rfl, SqL.of hR4, fun Z hZ => ?_⟩
            have s5 : Same H4 (upd H4 Z (.lst (cutV rs (some ((2 * j : Nat) : Int)) (some (((2 * j : Nat) : Int) + 2))))) := Same.new hZ
            have eZ := cut_two rs j
            rw [eZ] at s5 ⊢
            have hrun2 : RunsAt (upd H4 Z (.lst ((rs.drop (2 * j)).take 2))) ((rs.drop (2 * j)).take 2) ((runs.drop (2 * j)).take 2) := Paired.takeP _ (Paired.dropP _ (RunsAt.mono (s4.trans s5) hrs))
            have hl2 : ((runs.drop (2 * j)).take 2).length = 1 ∨ ((runs.drop (2 * j)).take 2).length = 2 := by
              rw [List.length_take, List.length_drop]
              omega
            have hsub : ∀ r ∈ (runs.drop (2 * j)).take 2, r ∈ runs := fun r hr => List.mem_of_mem_drop (List.mem_of_mem_take hr)
            have hfl : ((runs.drop (2 * j)).take 2).flatten.length ≤ 100 := by
              have e1 := congrArg (fun z => z.flatten.length) (List.take_append_drop 2 (runs.drop (2 * j)))
              have e2 := congrArg (fun z => z.flatten.length) (List.take_append_drop (2 * j) runs)
              simp only [List.flatten_append, List.length_append] at e1 e2
              have e3 := hrok.2
              omega
            refine ⟨p, t, Z, xs, l, _, _, rfl, hs.mono (s3.trans (s4.trans s5)), s5 _ _ ht4, Ams.mono (s3.trans (s4.trans s5)) hl, hok, upd_same, hrun2, hl2, fun r hr => (hrok.1 r (hsub r hr)).2, hfl, fun q ns H6 s6 hpr hq => ?_⟩
            rw [pr_part] at hpr
            have hns : (pr (fI D.G l) runs)[j]? = some ns := by
              have := congrArg (fun z => z[0]?) hpr
              simp only [List.getElem?_take, List.getElem?_drop] at this
              simpa using this
            have hnok := pr_ok hrok.1 ns (List.mem_of_getElem? hns)
            have s46 := s5.trans s6
            have hR6 := s46 _ _ hacc
            have hra6 := RunsAt.mono s46 hra
            have hqR := run_ne hra6 hR6 hq hnok.1
            refine ⟨acc, hR6, small1000 (by omega), fun c o e => ?_, _, upd_same, ?_⟩
            · rw [upd_ne (fun z => by rw [z, hR1] at e; cases e)]
              exact s46 _ _ (s4 _ _ e)
            · rw [take_snoc hns]
              refine (runs_keep hra6 hR6 (fun c o hc e => by rw [upd_ne hc]; exact e) hra6 fun r hr => (pr_ok hrok.1 r (List.mem_of_mem_take hr)).1).snoc ⟨q, rfl, by rw [upd_ne hqR]; exact hq⟩
          · rintro H4 ⟨s4, acc, hacc, hra⟩
            have hpl := pr_len (fI D.G l) runs
            rw [List.take_of_length_le (by omega)] at hra
            exact ⟨s3.trans s4, R1, acc, rfl, hacc, hra⟩
      · have hgt' : ¬ ((rs.length : Int) > 1) := by omega
        rw [decide_eq_false hgt']
        have h1 : runs.length = 1 := by omega
        match runs, h1, rs, hrs, hrl with
        | [ns], _, [v], .cons ⟨q, e, hq⟩ .nil, _ =>
          subst e
          have hrk2 : rank (fI D.G l) l.length = ns := by
            unfold rank
            rw [← hrk, rkW_done (by simp)]
            rfl
          refine iteF ⟨_, rfl, Nat.zero_le _, fun Z hZ => ⟨_, _, .lst (SqL.of (Same.new hZ _ _ hR)) (dp_run K (RunsAt.mono (Same.new hZ) (.cons ⟨q, rfl, hq⟩ .nil : RunsAt H3 [V.ref q] [ns]))), .lst (SqL.of upd_same) .nil, shaped_runs [ns], by decide, ?_⟩⟩
          have hneq : PyData.eqv (.list ([ns].map fun ns => .list (ns.map .int))) (.list []) = false := rfl
          rw [hneq]
          refine ⟨_, rfl, iteT ⟨_, rfl, R, _, _, _, rfl, rfl, SqL.of (Same.new hZ _ _ hR), atI_nat rfl, q, _, rfl, .inl ⟨SqL.of (Same.new hZ _ _ hq), fun z hz => ?_⟩⟩⟩
          refine k z _ (s3.trans ((Same.new hZ).trans (Same.new hz))) ?_
          rw [hrk2]
          exact upd_same
end
end Mo

set_option Elab.async false
set_option linter.all false
set_option maxRecDepth 100000
set_option maxHeartbeats 4000000
namespace Mo
open PySem PySem.Spec PyProof.Rows L2
/-! ### order_of, greatest, is_weight, zero -/
theorem dp_ams (K : PySem.W.Frag) {G : Grp} {H : Hp} : ∀ {xs : List V} {l : List G.α}, Ams G H xs l → DpAll K H xs (l.map fun a => (G.am a).py)
  | _, _, .nil => .nil
  | _, _, .cons h r => .cons (h.dp K) (dp_ams K r)
theorem lay_ams {G : Grp} : ∀ l : List G.α, PyData.canLayAll0 (l.map fun a => (G.am a).py) = true
  | [] => by simp [PyData.canLayAll0]
  | a :: r => by
    have h : PyData.canLay0 (G.am a).py = true := by
      cases G.am a with
      | i n => simp [Am.py, PyData.canLay0]
      | t ns => simp [Am.py, PyData.canLay0, canLay_ints]
    simp [PyData.canLayAll0, h, lay_ams r]
theorem depth_ams {G : Grp} : ∀ l : List G.α, PyData.depthAll (l.map fun a => (G.am a).py) ≤ 1
  | [] => by simp [PyData.depthAll]
  | a :: r => by
    have ih := depth_ams r
    have h : PyData.depth (G.am a).py ≤ 1 := by
      cases G.am a with
      | i n => simp [Am.py, PyData.depth]
      | t ns => simp [Am.py, PyData.depth, depth_ints]
    simp only [List.map_cons, PyData.depthAll]
    omega
theorem shaped_ams {G : Grp} (l : List G.α) : SeqAt.shaped (.tuple (l.map fun a => (G.am a).py)) = true := by
  have h := depth_ams l
  simp only [SeqAt.shaped, PyData.canLay0, lay_ams, PyData.depth, Bool.true_and]
  exact decide_eq_true (by omega)
section
variable {P : Program} {w : World} {K : PySem.W.Frag} {mg : Str → Option Value} {base : Heap} {C0 C1 C2 C3 : Addr} {D : Kd}
theorem sc_order : FnScope ["self", "amounts"] ["self", "amounts"] (defScope (inClass (top 20) 22)) := ⟨rfl, rfl, rfl, by decide +kernel, rfl, by decide +kernel, by decide +kernel⟩
theorem m_order (T : Txt K mg C0 C1 C2 C3) (B : Abs P w K mg base C0 D) : Mf P w K mg base 8 D.C "order_of" (spRanked D) := by
  obtain ⟨nn, q0, q1, q2, q3, q4, q5, ct⟩ := B.ct
  refine mf_of ct.order_of sc_order (fun vs H Q E h => ?_) (fun _ _ _ _ _ _ us hl => match us, hl with | [_, _], _ => rfl) fun f cdv A outer s H vs Q E hr h => ?_
  · obtain ⟨p, t, xs, l, rfl, _⟩ := h
    rfl
  · obtain ⟨p, t, xs, l, rfl, hs, ht, hl, hok, h0, h100, k⟩ := h
    refine ⟨_, pss_cons (ps_if (pt_cmpR (op_eqD hr.units) (pv 1) (pe_tup pa_nil) (nomark _)) pss_never pss_nil) (pss_one (ps_ret (pe_m (m_ranked T B) ct.cl hr (pv 0) (pa_cons (pv 1) pa_nil)))), ?_⟩
    refine ⟨_, rfl, Nat.zero_le _, fun Z hZ => ⟨_, _, .tup (SqT.of (Same.new hZ _ _ ht)) (dp_ams K (Ams.mono (Same.new hZ) hl)), .tup (SqT.of upd_same) .nil, shaped_ams l, by decide, ?_⟩⟩
    have e : PyData.eqv (.tuple (l.map fun a => (D.G.am a).py)) (.tuple []) = false := by
      cases l with
      | nil => cases h0
      | cons a r => simp [PyData.eqv, PyData.eqvAll]
    rw [e]
    refine ⟨_, rfl, iteF ?_⟩
    have s1 : Same H (upd H Z (.tup [])) := Same.new hZ
    obtain ⟨dx, fs, h1, h2⟩ := sc_recv (m := "ranked") (hs.mono s1) (by decide +kernel)
    exact ⟨_, rfl, p, dx, fs, rfl, h1, h2, _, rfl, p, t, xs, l, rfl, hs.mono s1, s1 _ _ ht, Ams.mono s1 hl, hok, h0, h100, fun q H' s' hq => k q H' (s1.trans s') hq⟩
theorem sc_great : FnScope ["self", "amounts"] ["self", "amounts"] (defScope (inClass (top 20) 20)) := ⟨rfl, rfl, rfl, by decide +kernel, rfl, by decide +kernel, by decide +kernel⟩
theorem m_great (T : Txt K mg C0 C1 C2 C3) (B : Abs P w K mg base C0 D) : Mf P w K mg base 9 D.C "greatest" (spGreatest D) := by
  obtain ⟨n, q0, q1, q2, q3, q4, q5, ct⟩ := B.ct
  have z : Mf P w K mg base 9 D.C "greatest" (fun vs H Q E => ∃ v rest, vs = v :: rest ∧ rest.length ≤ 5 ∧ ∀ p, H p = none → spGreat2 D [v, .ref p] (upd H p (.tup rest)) Q E) := by
    refine mfV_of (pa := "self") (pv := "amounts") (nmax := 5) ct.greatest sc_great (by decide) (fun kV doc pm an cdv ct => bindV_of (fun _ => rfl) (fun _ _ => rfl) (fun _ _ _ => rfl) (fun _ _ _ _ => rfl) (fun _ _ _ _ _ => rfl) (fun _ _ _ _ _ _ => rfl)) fun f cdv A outer s H vs Q E hr h => ?_
    obtain ⟨p, t, xs, l, rfl, hs, ht, hl, hok, h0, h100, k⟩ := h
    refine ⟨_, pss_one (ps_ret (pe_ix ix_tup (L2.pv 1) (pe_ix ix_tup (pe_m (m_order T B) ct.cl hr (L2.pv 0) (pa_cons (L2.pv 1) pa_nil)) pe_int (fun _ _ => rfl)) (fun _ _ => rfl))), ?_⟩
    obtain ⟨dx, fs, h1, h2⟩ := sc_recv (m := "order_of") hs (by decide +kernel)
    refine ⟨_, rfl, _, rfl, p, dx, fs, rfl, h1, h2, _, rfl, p, t, xs, l, rfl, hs, ht, hl, hok, h0, h100, fun q H' s' hq => ?_⟩
    obtain ⟨r0, rin⟩ := rank_ok (f := fI D.G l) h0
    have kk := k
    unfold top1 at kk
    cases er : rank (fI D.G l) l.length with
    | nil => exact absurd er r0
    | cons x rr =>
      rw [er] at rin kk hq
      obtain ⟨hx0, hx1⟩ := rin x (List.mem_cons_self ..)
      obtain ⟨v, ev, av⟩ := ams_ix (Ams.mono s' hl) hx0 hx1
      exact ⟨q, _, _, _, rfl, rfl, SqT.of hq, atI_nat rfl, t, _, _, _, rfl, rfl, SqT.of (s' _ _ ht), ev, kk _ _ s' av⟩
  obtain ⟨f, hm, F⟩ := z
  refine ⟨f, hm, F.imp fun vs H Q E h => ?_⟩
  obtain ⟨p, xs, l, rfl, hs, hl, hok, h0, hlen, k⟩ := h
  refine ⟨_, xs, rfl, by rw [hl.length]; exact hlen, fun t ht => ?_⟩
  have s1 : Same H (upd H t (.tup xs)) := Same.new ht
  exact ⟨p, t, xs, l, rfl, hs.mono s1, upd_same, Ams.mono s1 hl, hok, h0, by omega, fun y H2 s2 hy => k y H2 (s1.trans s2) hy⟩
theorem sc_isw : FnScope ["self", "value"] ["self", "value"] (defScope (inClass (top 20) 8)) := ⟨rfl, rfl, rfl, by decide +kernel, rfl, by decide +kernel, by decide +kernel⟩
theorem m_isw (T : Txt K mg C0 C1 C2 C3) : Mf P w K mg base 5 C3 "is_weight" (spIsW (dOdd C3)) := by
  refine mf_of T.c3.is_weight sc_isw (fun vs H Q E h => ?_) (fun _ _ _ _ _ _ us hl => match us, hl with | [_, _], _ => rfl) fun f cdv A outer s H vs Q E hr h => ?_
  · obtain ⟨p, v, a, rfl, _⟩ := h
    rfl
  · obtain ⟨p, v, a, rfl, hs, _, ha, hw, k⟩ := h
    refine ⟨_, pss_one (ps_ret (pe_and (pe_m (abs3 T).form T.c3.cl hr (pv 0) (pa_cons (pv 1) pa_nil)) (pe_one (pe_m (m_weight3 T) T.c3.cl hr (pv 0) (pa_cons (pv 1) pa_nil))))), ?_⟩
    obtain ⟨dx, fs, h1, h2⟩ := sc_recv (m := "has_form") hs (by decide +kernel)
    refine ⟨_, rfl, p, dx, fs, rfl, h1, h2, _, rfl, p, v, a, rfl, hs, ha, fun H' s' => ⟨true, rfl, ?_⟩⟩
    obtain ⟨dx, fs, h1, h2⟩ := sc_recv (m := "has_weight") (hs.mono s') (by decide +kernel)
    exact iteT ⟨_, rfl, p, dx, fs, rfl, h1, h2, _, rfl, p, v, a, rfl, ha.mono s', hw, k H' s'⟩
theorem sc_zero : FnScope ["self"] ["self"] (defScope (inClass (top 20) 6)) := ⟨rfl, rfl, rfl, by decide +kernel, rfl, by decide +kernel, by decide +kernel⟩
/-- e.zero -/
abbrev tZ (D : Kd) (ta : TE) : TE := tProp D.C (spZero D) [] E0 ta
theorem pe_z {X : Cx} {j n : Nat} {q0 q1 q2 q3 q4 q5 : Str} {o : Expr} {ta : TE} {pos : Pos} (ct : CT X.K C0 D.C n q0 q1 q2 q3 q4 q5) (hr : Room j X.A) (he : PE X o ta) (hj : 2 ≤ j := by decide) (hab : attributeBase o "zero" X.env (eval o X.env) = eval o X.env := by rfl) : PE X (.Attribute o "zero" pos) (tZ D ta) := by
  obtain ⟨p, f, fd, hp, F⟩ := ct.zero
  have ok : FnOk X.prog X.w X.K X.mg X.base CX0 1 f fd ["self"] (spZero D) := F.ok sc_zero (fun vs H Q E h => by
      obtain ⟨p, rfl, _⟩ := h
      rfl) fun cdv A outer s H vs Q E hr h => by
    obtain ⟨p, rfl, hs, k⟩ := h
    refine ⟨_, pss_one (ps_ret (pe_fld (pv 0) rfl)), ?_⟩
    obtain ⟨dx, z, o, g1, g2⟩ := hs
    exact ⟨_, rfl, p, D.C, dx, _, _, rfl, g1, ct.cl, ct.n2, fsc_zero _ _ _ _, k z g2⟩
  have hb : Binds X.K fd ["self"] [] := F.binds (fun _ _ _ _ _ _ us hl => match us, hl with | [_], _ => rfl)
  exact pe_prop he ct.cl hp ok (hr.mono hj) hb .nil pass0 hab
end
end Mo

set_option Elab.async false
set_option linter.all false
set_option maxRecDepth 100000
set_option maxHeartbeats 4000000
namespace Mo
open PySem PySem.Spec PyProof.Rows L2
/-! ### __init__, the static methods, _law_made -/
def spInit (D : Kd) : Sp := fun vs H Q _ => ∃ p dx z o, vs = [.ref p, .str D.word, .int D.size, z, o] ∧ H p = some (.ins D.C dx []) ∧
  ∀ H', H' p = some (.ins D.C dx (fsc (.str D.word) (.int D.size) z o)) → (∀ b u, H b = some u → b ≠ p → H' b = some u) → Q .non H'
/-- a new scale at p, all else stands -/
def spNew (D : Kd) (vs0 : List V) : Sp := fun vs H Q _ => vs = vs0 ∧ ∀ p H', Same H H' → ScAt D H' p → Q (.ref p) H'
section
variable {P : Program} {w : World} {K : PySem.W.Frag} {mg : Str → Option Value} {base : Heap} {C0 C1 C2 C3 : Addr} {D : Kd}
theorem sc_init : FnScope ["self", "word", "size", "zero", "one"] ["self", "word", "size", "zero", "one"] (defScope (inClass (top 20) 0)) := ⟨rfl, rfl, rfl, by decide +kernel, rfl, by decide +kernel, by decide +kernel⟩
theorem k_init {x : Str} {n : Nat} {q0 q1 q2 q3 q4 q5 : Str} (ct : CT K C0 D.C n q0 q1 q2 q3 q4 q5) (hx : mg x = some (.ref D.C)) : Kf P w K mg base 1 x D.C (spInit D) := by
  refine kf_of hx ct.mkr sc_init (fun vs H Q E h => ?_) (fun _ _ _ _ _ _ us hl => match us, hl with | [_, _, _, _, _], _ => rfl) fun f cdv A outer s H vs Q E hr h => ?_
  · obtain ⟨p, dx, z, o, rfl, _⟩ := h
    rfl
  · obtain ⟨p, dx, z, o, rfl, hp, k⟩ := h
    refine ⟨_, pss_cons (ps_fld (pv 0) (pv 1) rfl) (pss_cons (ps_fld (pv 0) (pv 2) rfl) (pss_cons (ps_fld (pv 0) (pv 3) rfl) (pss_one (ps_fld (pv 0) (pv 4) rfl)))), ?_⟩
    refine ⟨_, rfl, _, rfl, p, D.C, dx, _, rfl, hp, ct.cl, ct.n0, (by decide), ?_⟩
    refine ⟨_, rfl, _, rfl, p, D.C, dx, _, rfl, upd_same, ct.cl, ct.n1, (by show 1 < _; decide), ?_⟩
    refine ⟨_, rfl, _, rfl, p, D.C, dx, _, rfl, upd_same, ct.cl, ct.n2, (by show 2 < _; decide), ?_⟩
    refine ⟨_, rfl, _, rfl, p, D.C, dx, _, rfl, upd_same, ct.cl, ct.n3, (by show 3 < _; decide), ?_⟩
    exact k _ upd_same fun b u e n => by rw [upd_ne n, upd_ne n, upd_ne n, upd_ne n]; exact e
/-- what a new scale's making asks -/
theorem new_by {H1 : Hp} {z o : V} {Q : VK} (hz : AmV H1 z (D.G.am D.G.zero)) (k : ∀ p H', Same H1 H' → ScAt D H' p → Q (.ref p) H') : ∀ x dx, H1 x = none → H1 dx = none → dx ≠ x →
    spInit D (.ref x :: [.str D.word, .int D.size, z, o]) (upd (upd H1 dx (.own x)) x (.ins D.C dx [])) (fun v H2 => v = .non ∧ Q (.ref x) H2) E0 := by
  intro x dx hx hdx hne
  refine ⟨x, dx, z, o, rfl, upd_same, fun H' h1 h2 => ⟨rfl, ?_⟩⟩
  have s1 : Same H1 H' := fun b u e => by
    have n1 : b ≠ x := fun q => by rw [q, hx] at e; cases e
    have n2 : b ≠ dx := fun q => by rw [q, hdx] at e; cases e
    exact h2 b u (by rw [upd_ne n1, upd_ne n2]; exact e) n1
  exact k x H' s1 ⟨dx, z, o, h1, hz.mono s1⟩
theorem rep_by (K : PySem.W.Frag) {H : Hp} {l : Addr} {x : Int} {m : Nat} {Q : VK} (hT : H l = some (.tup [.int x])) (hm : m ≤ 4) (k : ∀ p H', Same H H' → H' p = some (.tup ((List.replicate m x).map V.int)) → Q (.ref p) H') :
    rRepT K (.ref l) (.int (m : Int)) H Q ∨ rRep01 K (.ref l) (.int (m : Int)) H Q := by
  match m, hm with
  | 0, _ => exact .inr ⟨l, _, rfl, SqT.of hT, by simp, .inr ⟨rfl, fun p hp => k p _ (Same.new hp) upd_same⟩⟩
  | 1, _ => exact .inr ⟨l, _, rfl, SqT.of hT, by simp, .inl ⟨rfl, k l H (Same.refl _) hT⟩⟩
  | m + 2, hm =>
    refine .inl ⟨l, ((m + 2 : Nat) : Int), _, rfl, rfl, SqT.of hT, by simp, by omega, by omega, (by show 1 ≤ 1000; decide), fun p hp => k p _ (Same.new hp) ?_⟩
    rw [upd_same]
    have e : ∀ n : Nat, (List.replicate n [V.int x]).flatten = (List.replicate n x).map V.int := fun n => by
      induction n with
      | zero => rfl
      | succ n ih =>
        rw [List.replicate_succ, List.replicate_succ, List.flatten_cons, ih]
        rfl
    rw [← e]
    rfl
theorem rep_by2 (K : PySem.W.Frag) {H : Hp} {l : Addr} {x i : Int} {m : Nat} {Q : VK} (hi : i = (m : Int)) (hT : H l = some (.tup [.int x])) (hm : m ≤ 4) (k : ∀ p H', Same H H' → H' p = some (.tup ((List.replicate m x).map V.int)) → Q (.ref p) H') :
    rRepT K (.ref l) (.int i) H Q ∨ rRep01 K (.ref l) (.int i) H Q := by
  subst hi
  exact rep_by K hT hm k
theorem cat_by (K : PySem.W.Frag) {H : Hp} {a b : Addr} {xs ys : List V} {Q : VK} (ha : H a = some (.tup xs)) (hb : H b = some (.tup ys)) (hx : xs ≠ []) (hl : xs.length + ys.length ≤ sizeLine) (k : ∀ p H', Same H H' → H' p = some (.tup (xs ++ ys)) → Q (.ref p) H') :
    rCatA K (.ref a) (.ref b) H Q :=
  ⟨a, b, xs, ys, rfl, rfl, SqT.of ha, SqT.of hb, hl, fun e => absurd e hx, fun _ e => k a H (Same.refl _) (by rw [e, List.append_nil]; exact ha), fun _ _ p hp => k p _ (Same.new hp) upd_same⟩
theorem sc_sums : FnScope [] [] (defScope (inClass (top 20) 1)) := ⟨rfl, rfl, rfl, by decide +kernel, rfl, by decide +kernel, by decide +kernel⟩
theorem s_sums (T : Txt K mg C0 C1 C2 C3) : Sf P w K mg base 3 C0 "sums" (spNew (dSum C1) []) := by
  refine sf_of T.st_sums sc_sums (fun vs H Q E h => ?_) (fun _ _ _ _ _ _ us hl => match us, hl with | [], _ => rfl) fun f cdv A outer s H vs Q E hr h => ?_
  · obtain ⟨rfl, _⟩ := h
    rfl
  · obtain ⟨rfl, k⟩ := h
    obtain ⟨t, ht⟩ := T.sSUMS
    refine ⟨_, pss_one (ps_ret (pe_k (k_init (D := dSum C1) T.c1 T.mg1) hr rfl (pa_cons (pe_glob rfl ht (v := .str "sums") ⟨_, rfl⟩) (pa_cons pe_int (pa_cons pe_int (pa_cons pe_int pa_nil)))))), ?_⟩
    exact new_by (D := dSum C1) rfl k
theorem sc_odds : FnScope [] [] (defScope (inClass (top 20) 3)) := ⟨rfl, rfl, rfl, by decide +kernel, rfl, by decide +kernel, by decide +kernel⟩
theorem s_odds (T : Txt K mg C0 C1 C2 C3) : Sf P w K mg base 3 C0 "odds" (spNew (dOdd C3) []) := by
  refine sf_of T.st_odds sc_odds (fun vs H Q E h => ?_) (fun _ _ _ _ _ _ us hl => match us, hl with | [], _ => rfl) fun f cdv A outer s H vs Q E hr h => ?_
  · obtain ⟨rfl, _⟩ := h
    rfl
  · obtain ⟨rfl, k⟩ := h
    obtain ⟨t, ht⟩ := T.sODDS
    refine ⟨_, pss_one (ps_ret (pe_k (k_init (D := dOdd C3) T.c3 T.mg3) hr rfl (pa_cons (pe_glob rfl ht (v := .str "odds") ⟨_, rfl⟩) (pa_cons pe_int (pa_cons (pe_tup (pa_cons pe_int (pa_cons pe_int pa_nil))) (pa_cons (pe_tup (pa_cons pe_int (pa_cons pe_int pa_nil))) pa_nil)))))), ?_⟩
    refine ⟨(by show 2 ≤ sizeLine; decide), fun p hp => ⟨(by show 2 ≤ sizeLine; decide), fun q hq => ?_⟩⟩
    have s1 := (Same.new (H := H) (o := .tup [.int 1, .int 1]) hp).trans (Same.new (o := .tup [.int 2, .int 1]) hq)
    exact new_by (D := dOdd C3) ⟨p, rfl, Same.new hq _ _ upd_same⟩ fun r H' s' h' => k r H' (s1.trans s') h'
theorem sc_classes : FnScope ["size"] ["size"] (defScope (inClass (top 20) 2)) := ⟨rfl, rfl, rfl, by decide +kernel, rfl, by decide +kernel, by decide +kernel⟩
theorem s_classes (T : Txt K mg C0 C1 C2 C3) (k : Nat) (h1 : 1 ≤ k) (h4 : k ≤ 4) : Sf P w K mg base 3 C0 "classes" (spNew (dCls C2 k h4) [.int (k : Int)]) := by
  refine sf_of T.st_classes sc_classes (fun vs H Q E h => ?_) (fun _ _ _ _ _ _ us hl => match us, hl with | [_], _ => rfl) fun f cdv A outer s H vs Q E hr h => ?_
  · obtain ⟨rfl, _⟩ := h
    rfl
  · obtain ⟨rfl, kk⟩ := h
    obtain ⟨t, ht⟩ := T.sCLASSES
    obtain ⟨t2, hm⟩ := T.iMAX_SIZE
    refine ⟨_, pss_cons (ps_if (PW.pt (pw_or (pt_not (pt_val (pe_g (g_is_integer T) hr rfl (pa_cons (pv 0) pa_nil)))) (pw_or1 (pt_not (pt_chain op_le op_le pe_int (pv 0) (pe_glob rfl hm (v := .int 4) ⟨_, rfl⟩)))))) pss_never pss_nil)
      (pss_one (ps_ret (pe_k (k_init (D := dCls C2 k h4) T.c2 T.mg2) hr rfl (pa_cons (pe_glob rfl ht (v := .str "classes") ⟨_, rfl⟩) (pa_cons (pv 0) (pa_cons (pe_op (OpR.or op_repT op_rep01) (pe_tup (pa_cons pe_int pa_nil)) (pv 0))
        (pa_cons (pe_op op_catA (pe_tup (pa_cons pe_int pa_nil)) (pe_op (OpR.or op_repT op_rep01) (pe_tup (pa_cons pe_int pa_nil)) (pe_op op_sub (pv 0) pe_int))) pa_nil))))))), ?_⟩
    refine ⟨_, rfl, _, rfl, true, rfl, iteF ⟨_, rfl, _, _, rfl, rfl, _, rfl, ?_⟩⟩
    rw [decide_eq_true (show (1 : Int) ≤ (k : Int) by omega)]
    refine iteT ⟨_, _, rfl, rfl, _, rfl, ?_⟩
    rw [decide_eq_true (show (k : Int) ≤ (4 : Int) by omega)]
    refine iteF ?_
    refine ⟨_, rfl, (by show 1 ≤ sizeLine; decide), fun p hp => ⟨_, rfl, rep_by K upd_same h4 fun z H1 s1 hz => ?_⟩⟩
    have s01 := (Same.new (H := H) (o := .tup [.int 0]) hp).trans s1
    refine ⟨(by show 1 ≤ sizeLine; decide), fun p1 hp1 => ⟨(by show 1 ≤ sizeLine; decide), fun p2 hp2 => ⟨_, rfl, _, _, rfl, rfl, ?_⟩⟩⟩
    have e : (k : Int) - 1 = ((k - 1 : Nat) : Int) := by omega
    have s12 := (Same.new (H := H1) (o := .tup [.int 1]) hp1).trans (Same.new (o := .tup [.int 0]) hp2)
    refine rep_by2 K (m := k - 1) e upd_same (by omega) fun z2 H2 s2 hz2 => ?_
    refine cat_by K (s2 _ _ (Same.new hp2 _ _ upd_same)) hz2 (by simp) ?_ fun z3 H3 s3 hz3 => ?_
    · rw [List.length_map, List.length_replicate]
      exact Nat.le_of_lt (small1000 (by have e : [V.int 1].length = 1 := rfl; omega))
    · have s13 := s12.trans (s2.trans s3)
      exact new_by (D := dCls C2 k h4) ⟨z, rfl, s13 _ _ hz⟩ fun r H' s' h' => kk r H' (s01.trans (s13.trans s')) h'
/-- the kinds of scales that the law asks -/
inductive Kind (C1 C2 C3 : Addr) : Kd → Prop where
  | sums : Kind C1 C2 C3 (dSum C1)
  | cls (k : Nat) (h1 : 1 ≤ k) (h4 : k ≤ 4) : Kind C1 C2 C3 (dCls C2 k h4)
  | odds : Kind C1 C2 C3 (dOdd C3)
theorem Kind.abs (T : Txt K mg C0 C1 C2 C3) (h : Kind C1 C2 C3 D) : Abs P w K mg base C0 D := by
  cases h with
  | sums => exact abs1 T
  | cls k h1 h4 => exact abs2 T k h4
  | odds => exact abs3 T
def spMade (D : Kd) : Sp := fun vs H Q _ => ∃ m, vs = [.ref m] ∧ H m = some (.tup [.str D.word, .int D.size]) ∧ ∀ p H', Same H H' → ScAt D H' p → Q (.ref p) H'
theorem sc33 : FnScope ["_law_measure"] ["_law_measure"] (defScope (top 33)) := ⟨rfl, rfl, rfl, by decide +kernel, rfl, by decide +kernel, by decide +kernel⟩
theorem g_made (T : Txt K mg C0 C1 C2 C3) (h : Kind C1 C2 C3 D) : Gf P w K mg base 4 "_law_made" (spMade D) := by
  refine gf_of T.d_law_made sc33 (fun vs H Q E h => ?_) (fun _ _ _ _ _ _ us hl => match us, hl with | [_], _ => rfl) fun f cdv A outer s H vs Q E hr hh => ?_
  · obtain ⟨m, rfl, _⟩ := h
    rfl
  · obtain ⟨m, rfl, hm, k⟩ := hh
    cases h with
    | sums =>
      refine ⟨_, pss_cons (ps_if (pt_cmpR op_eq (pe_ix ix_tup (pv 0) pe_int (fun _ _ => rfl)) pe_str (nomark _)) (pss_one (ps_ret (pe_s (s_classes T 1 (by decide) (by decide)) T.rd hr (pe_glob rfl T.mg0 (v := .ref C0) rfl) (pa_cons (pe_ix ix_tup (pv 0) pe_int (fun _ _ => rfl)) pa_nil)))) pss_nil)
        (pss_one (ps_ret (pe_ifExp (pt_cmpR op_eq (pe_ix ix_tup (pv 0) pe_int (fun _ _ => rfl)) pe_str (nomark _)) (pe_s0 (s_sums T) T.rd hr (pe_glob rfl T.mg0 (v := .ref C0) rfl)) (pe_s0 (s_odds T) T.rd hr (pe_glob rfl T.mg0 (v := .ref C0) rfl))))), ?_⟩
      refine ⟨_, rfl, m, _, _, _, rfl, rfl, SqT.of hm, atI_nat rfl, rfl, _, rfl, ?_⟩
      rw [show decide (V.str ("sums" : Str) = V.str ("classes" : Str)) = false by decide +kernel]
      refine iteF ⟨_, rfl, m, _, _, _, rfl, rfl, SqT.of hm, atI_nat rfl, rfl, _, rfl, ?_⟩
      rw [show decide (V.str ("sums" : Str) = V.str ("sums" : Str)) = true by decide +kernel]
      exact iteT ⟨rfl, rfl, k⟩
    | cls j h1 h4 =>
      refine ⟨_, pss_cons (ps_if (pt_cmpR op_eq (pe_ix ix_tup (pv 0) pe_int (fun _ _ => rfl)) pe_str (nomark _)) (pss_one (ps_ret (pe_s (s_classes T j h1 h4) T.rd hr (pe_glob rfl T.mg0 (v := .ref C0) rfl) (pa_cons (pe_ix ix_tup (pv 0) pe_int (fun _ _ => rfl)) pa_nil)))) pss_nil)
        (pss_one (ps_ret (pe_ifExp (pt_cmpR op_eq (pe_ix ix_tup (pv 0) pe_int (fun _ _ => rfl)) pe_str (nomark _)) (pe_s0 (s_sums T) T.rd hr (pe_glob rfl T.mg0 (v := .ref C0) rfl)) (pe_s0 (s_odds T) T.rd hr (pe_glob rfl T.mg0 (v := .ref C0) rfl))))), ?_⟩
      refine ⟨_, rfl, m, _, _, _, rfl, rfl, SqT.of hm, atI_nat rfl, rfl, _, rfl, ?_⟩
      rw [show decide (V.str ("classes" : Str) = V.str ("classes" : Str)) = true by decide +kernel]
      exact iteT ⟨rfl, _, rfl, m, _, _, _, rfl, rfl, SqT.of hm, atI_nat rfl, rfl, k⟩
    | odds =>
      refine ⟨_, pss_cons (ps_if (pt_cmpR op_eq (pe_ix ix_tup (pv 0) pe_int (fun _ _ => rfl)) pe_str (nomark _)) (pss_one (ps_ret (pe_s (s_classes T 1 (by decide) (by decide)) T.rd hr (pe_glob rfl T.mg0 (v := .ref C0) rfl) (pa_cons (pe_ix ix_tup (pv 0) pe_int (fun _ _ => rfl)) pa_nil)))) pss_nil)
        (pss_one (ps_ret (pe_ifExp (pt_cmpR op_eq (pe_ix ix_tup (pv 0) pe_int (fun _ _ => rfl)) pe_str (nomark _)) (pe_s0 (s_sums T) T.rd hr (pe_glob rfl T.mg0 (v := .ref C0) rfl)) (pe_s0 (s_odds T) T.rd hr (pe_glob rfl T.mg0 (v := .ref C0) rfl))))), ?_⟩
      refine ⟨_, rfl, m, _, _, _, rfl, rfl, SqT.of hm, atI_nat rfl, rfl, _, rfl, ?_⟩
      rw [show decide (V.str ("odds" : Str) = V.str ("classes" : Str)) = false by decide +kernel]
      refine iteF ⟨_, rfl, m, _, _, _, rfl, rfl, SqT.of hm, atI_nat rfl, rfl, _, rfl, ?_⟩
      rw [show decide (V.str ("odds" : Str) = V.str ("sums" : Str)) = false by decide +kernel]
      exact iteF ⟨rfl, rfl, k⟩
end
end Mo

set_option Elab.async false
set_option linter.all false
set_option maxRecDepth 100000
set_option maxHeartbeats 4000000
namespace Mo
open PySem PySem.Spec PyProof.Rows L2
/-! ### _law_amount, _law_weight -/
theorem DStep.set {d p : Addr} {H H1 : Hp} {o : HO} (a : DStep d H H1) (h0 : DiceAt H d) (hp : H p = none) : DStep d H (upd H1 p o) := by
  have n : d ≠ p := fun z => by
    obtain ⟨x, y, u, q⟩ := h0
    rw [z, hp] at q
    cases q
  refine ⟨fun b u e nb => ?_, ?_⟩
  · rw [upd_ne (fun z => by rw [z, hp] at e; cases e)]
    exact a.1 b u e nb
  · obtain ⟨x, y, u, q⟩ := a.2
    exact ⟨x, y, u, by rw [upd_ne n]; exact q⟩
theorem DStep.new {d p : Addr} {H H1 : Hp} {o : HO} (a : DStep d H H1) (hp : H1 p = none) : DStep d H (upd H1 p o) := DStep.same a (Same.new hp)
theorem pick_one (K : PySem.W.Frag) {H : Hp} {q d : Addr} {xs : List Int} {n : Int} {Q : VK} (h0 : DiceAt H d) (hq : H q = none) (hn : n = (xs.length : Int)) (hne : 0 < xs.length) (hl : xs.length ≤ 1000) (k : ∀ t H', t ∈ xs → DStep d H H' → Q (.int t) H') :
    spPull [.ref d, .int n] (upd H q (.lst (xs.map V.int))) (fun v H2 => rIxL K (.ref q) v H2 Q) E0 := by
  subst hn
  have s1 : DStep d H (upd H q (.lst (xs.map V.int))) := (DStep.refl h0).new hq
  refine ⟨d, _, rfl, s1.2, by omega, ?_, fun r H2 r0 r1 s2 => ?_⟩
  · have : ((xs.length : Int)).natAbs ≤ 1000 := by omega
    exact Nat.lt_of_le_of_lt this (by decide)
  · have hi : r.toNat < xs.length := by omega
    have nq : q ≠ d := fun z => by
      obtain ⟨x, y, u, e⟩ := h0
      rw [← z, hq] at e
      cases e
    refine ⟨q, _, _, _, rfl, rfl, SqL.of (s2.1 _ _ upd_same nq), at_of (v := .int xs[r.toNat]) (j := r.toNat) (by omega) (by rw [List.getElem?_map]; simp [hi]), k _ _ (List.getElem_mem hi) (s1.trans s2)⟩
def spAmount (D : Kd) : Sp := fun vs H Q _ => ∃ d m, vs = [.ref d, .ref m] ∧ DiceAt H d ∧ H m = some (.tup [.str D.word, .int D.size]) ∧ ∀ v H' a, DStep d H H' → AmV H' v (D.G.am a) → D.G.ok 140 a → Q v H'
section
variable {P : Program} {w : World} {K : PySem.W.Frag} {mg : Str → Option Value} {base : Heap} {C0 C1 C2 C3 : Addr} {D : Kd}
theorem sc34 : FnScope ["_law_dice_here", "_law_measure", "_law_found", "_law_turn", "_law_big"] ["_law_dice_here", "_law_measure"] (defScope (top 34)) := ⟨rfl, rfl, rfl, by decide +kernel, rfl, by decide +kernel, by decide +kernel⟩
theorem g_amount (T : Txt K mg C0 C1 C2 C3) (h : Kind C1 C2 C3 D) : Gf P w K mg base 2 "_law_amount" (spAmount D) := by
  refine gf_of T.d_law_amount sc34 (fun vs H Q E h => ?_) (fun _ _ _ _ _ _ us hl => match us, hl with | [_, _], _ => rfl) fun f cdv A outer s H vs Q E hr hh => ?_
  · obtain ⟨d, m, rfl, _⟩ := h
    rfl
  · obtain ⟨d, m, rfl, h0, hm, k⟩ := hh
    refine ⟨_, pss_cons (ps_if (pt_cmpR op_eq (pe_ix ix_tup (pv 1) pe_int (fun _ _ => rfl)) pe_str (nomark _))
        (pss_cons (ps_set (i := 2) sc34.nd rfl (Or.inl rfl) (pe_g (g_pull T) hr rfl (pa_cons (pv 0) (pa_cons (pe_ix ix_list (pe_lst (pa_cons pe_int (pa_cons pe_int (pa_cons (pe_op op_powW pe_int pe_int) pa_nil)))) (pe_g (g_pull T) hr rfl (pa_cons (pv 0) (pa_cons pe_int pa_nil))) (fun _ _ => rfl)) pa_nil))))
        (pss_one (ps_ret (pe_op op_sub (pv 2) (pe_g (g_pull T) hr rfl (pa_cons (pv 0) (pa_cons (pe_ix ix_list (pe_lst (pa_cons pe_int (pa_cons pe_int (pa_cons (pe_op op_powW pe_int pe_int) pa_nil)))) (pe_g (g_pull T) hr rfl (pa_cons (pv 0) (pa_cons pe_int pa_nil))) (fun _ _ => rfl)) pa_nil))))))) pss_nil)
      (pss_cons (ps_if (pt_cmpR op_eq (pe_ix ix_tup (pv 1) pe_int (fun _ _ => rfl)) pe_str (nomark _))
        (pss_one (ps_ret (pe_callTy call_tuple_of rfl T.ftuple boot_tuple (pa_cons
          (pe_lc (own := [("_law_turn", 3)]) (g := gName 3) (tt := tYes) (te := tOp (rI0 fun i j => .int (i - j)) (tG spPull (tCons (tVar 0) (tCons (tC (.int 4)) tNil))) (tG spPull (tCons (tVar 0) (tCons (tC (.int 4)) tNil)))) rfl sc34.nd (pi_range1 rfl T.frange (pa_cons (pe_ix ix_tup (pv 1) pe_int (fun _ _ => rfl)) pa_nil))
            (blkOk_by (own := [("_law_turn", 3)]) (N := ["_law_dice_here", "_law_measure", "_law_found", "_law_turn", "_law_big"]) (sc := defScope (top 34)) (by decide +kernel))
            (fun _ _ _ _ _ => pg_name (i := 3) sc34.nd rfl (Or.inl rfl)) (fun _ _ _ _ _ => pts_nil)
            (fun s1 H1 c1 cl1 fp1 => ?_)) pa_nil)))) pss_nil)
      (pss_cons (ps_set (i := 4) sc34.nd rfl (Or.inl rfl) (pe_ix ix_list (pe_lst (pa_cons pe_int (pa_cons pe_int (pa_cons (pe_op op_powW pe_int pe_int) pa_nil)))) (pe_g (g_pull T) hr rfl (pa_cons (pv 0) (pa_cons pe_int pa_nil))) (fun _ _ => rfl)))
      (pss_one (ps_ret (pe_g (g_lowest T) hr rfl (pa_cons (pe_op op_add pe_int (pe_g (g_pull T) hr rfl (pa_cons (pv 0) (pa_cons (pv 4) pa_nil)))) (pa_cons (pe_op op_add pe_int (pe_g (g_pull T) hr rfl (pa_cons (pv 0) (pa_cons (pv 4) pa_nil)))) pa_nil))))))), ?_⟩
    · exact pe_op op_sub (pe_g (g_pull T) hr rfl (pa_cons (pv 0) (pa_cons pe_int pa_nil))) (pe_g (g_pull T) hr rfl (pa_cons (pv 0) (pa_cons pe_int pa_nil)))
    have hp40 : (Builtin.Int.intBits 10 : Int) * 40 ≤ 2 ^ 27 := by decide +kernel
    cases h with
    | sums =>
      refine ⟨_, rfl, m, _, _, _, rfl, rfl, SqT.of hm, atI_nat rfl, rfl, _, rfl, ?_⟩
      rw [show decide (V.str ("sums" : Str) = V.str ("sums" : Str)) = true by decide +kernel]
      have hx : ∀ x ∈ ([2, 5, (10 : Int) ^ (40 : Int).toNat] : List Int), 0 < x ∧ x.natAbs < 2 ^ 200 := by decide +kernel
      refine iteT ⟨_, rfl, _, _, rfl, rfl, ⟨by decide, hp40⟩, (by show 3 ≤ sizeLine; decide), fun q hq => ⟨_, rfl, pick_one K (xs := [2, 5, (10 : Int) ^ (40 : Int).toNat]) h0 hq rfl (by decide) (by decide) fun t H1 ht s1 => ⟨d, t, rfl, s1.2, (hx t ht).1, (hx t ht).2, fun r H2 r0 r1 s2 => ?_⟩⟩⟩
      refine ⟨_, rfl, _, rfl, _, _, rfl, rfl, ⟨by decide, hp40⟩, (by show 3 ≤ sizeLine; decide), fun q2 hq2 => ⟨_, rfl, pick_one K (xs := [2, 5, (10 : Int) ^ (40 : Int).toNat]) s2.2 hq2 rfl (by decide) (by decide) fun t2 H3 ht2 s3 => ⟨d, t2, rfl, s3.2, (hx t2 ht2).1, (hx t2 ht2).2, fun r2 H4 r20 r21 s4 => ?_⟩⟩⟩
      exact ⟨_, _, rfl, rfl, k _ _ (r - r2 : Int) (s1.trans (s2.trans (s3.trans s4))) rfl trivial⟩
    | cls j h1 h4 =>
      refine ⟨_, rfl, m, _, _, _, rfl, rfl, SqT.of hm, atI_nat rfl, rfl, _, rfl, ?_⟩
      rw [show decide (V.str ("classes" : Str) = V.str ("sums" : Str)) = false by decide +kernel]
      refine iteF ⟨_, rfl, m, _, _, _, rfl, rfl, SqT.of hm, atI_nat rfl, rfl, _, rfl, ?_⟩
      rw [show decide (V.str ("classes" : Str) = V.str ("classes" : Str)) = true by decide +kernel]
      refine iteT ⟨_, rfl, m, _, _, _, rfl, rfl, SqT.of hm, atI_nat rfl, (j : Int), rfl, by omega, by omega, fun R hR => ?_⟩
      have sR : DStep d H (upd H R (.lst [])) := (DStep.refl h0).new hR
      have nR : R ≠ d := fun z => by
        obtain ⟨x, y, u, e⟩ := h0
        rw [← z, hR] at e
        cases e
      refine lc_range (lo := 0) (n := ((j : Int)).toNat) (fun i H2 => DStep d H H2 ∧ ∃ ns : List Int, ns.length = i ∧ H2 R = some (.lst (ns.map V.int))) ⟨sR, [], rfl, upd_same⟩ ?_ ?_
      · rintro i H2 hi ⟨s2, ns, hn, hns⟩
        refine ⟨rfl, _, rfl, d, 4, rfl, s2.2, by decide, by decide, fun r H3 r0 r1 s3 => ?_⟩
        refine ⟨_, rfl, d, 4, rfl, s3.2, by decide, by decide, fun r2 H4 r20 r21 s4 => ?_⟩
        have s24 := s3.trans s4
        refine ⟨_, _, rfl, rfl, _, s24.1 _ _ hns nR, ?_, (s2.trans s24).set h0 hR, ns ++ [r - r2], ?_, ?_⟩
        · rw [List.length_map]
          exact small1000 (by omega)
        · rw [List.length_append, hn]
          rfl
        · rw [upd_same, List.map_append]
          rfl
      · rintro H2 ⟨s2, ns, hn, hns⟩
        refine ⟨_, _, rfl, .inl ⟨SqL.of hns, fun z hz => ?_⟩⟩
        refine k _ _ ⟨ns, by omega⟩ (s2.new hz) ⟨z, rfl, upd_same⟩ trivial
    | odds =>
      refine ⟨_, rfl, m, _, _, _, rfl, rfl, SqT.of hm, atI_nat rfl, rfl, _, rfl, ?_⟩
      rw [show decide (V.str ("odds" : Str) = V.str ("sums" : Str)) = false by decide +kernel]
      refine iteF ⟨_, rfl, m, _, _, _, rfl, rfl, SqT.of hm, atI_nat rfl, rfl, _, rfl, ?_⟩
      rw [show decide (V.str ("odds" : Str) = V.str ("classes" : Str)) = false by decide +kernel]
      have hx : ∀ x ∈ ([3, 12, (10 : Int) ^ (40 : Int).toNat] : List Int), 0 < x ∧ x.natAbs + 1 < 2 ^ 140 := by decide +kernel
      refine iteF ⟨_, _, rfl, rfl, ⟨by decide, hp40⟩, (by show 3 ≤ sizeLine; decide), fun q hq => ⟨_, rfl, pick_one K (xs := [3, 12, (10 : Int) ^ (40 : Int).toNat]) h0 hq rfl (by decide) (by decide) fun t H2 ht s2 => ?_⟩⟩
      obtain ⟨t0, t1⟩ := hx t ht
      have t200 : t.natAbs < 2 ^ 200 := Nat.lt_trans (Nat.lt_of_succ_lt t1) (by decide)
      refine ⟨_, rfl, _, rfl, d, t, rfl, s2.2, t0, t200, fun r H3 r0 r1 s3 => ⟨_, _, rfl, rfl, _, rfl, _, rfl, d, t, rfl, s3.2, t0, t200, fun r2 H4 r20 r21 s4 => ⟨_, _, rfl, rfl, ?_⟩⟩⟩
      have b1 : (1 + r).natAbs < 2 ^ 140 := by omega
      have b2 : (1 + r2).natAbs < 2 ^ 140 := by omega
      refine ⟨1 + r, 1 + r2, 140, rfl, by omega, by omega, b1, b2, by decide, fun p hp => ?_⟩
      have p1 : 0 < 1 + r := by omega
      have p2 : 0 < 1 + r2 := by omega
      exact k _ _ ⟨Rat.divInt (1 + r) (1 + r2), qd_pos p1 p2⟩ ((s2.trans (s3.trans s4)).new hp) ⟨p, rfl, upd_same⟩ (okQ_qd (by omega) p2 b1 b2)
end
end Mo

set_option Elab.async false
set_option linter.all false
set_option maxRecDepth 100000
set_option maxHeartbeats 4000000
namespace Mo
open PySem PySem.Spec PyProof.Rows L2
/-! ### _law_weight -/
def wGood (D : Kd) (a : D.G.α) : Prop := D.G.ok 140 a ∧ D.G.lt D.G.zero a = true
def isWA : Am → Prop
  | .t [n, d] => d < n ∧ n ≤ 1000000
  | _ => False
def spWeight (D : Kd) : Sp := fun vs H Q _ => ∃ d m, vs = [.ref d, .ref m] ∧ DiceAt H d ∧ H m = some (.tup [.str D.word, .int D.size]) ∧ ∀ v H' a, DStep d H H' → AmV H' v (D.G.am a) → wGood D a → (D.word = "odds" → isWA (D.G.am a)) → Q v H'
/-- ints with none below zero, one above: above the zeros -/
theorem lx_pos : ∀ (l : List Int), (∀ x ∈ l, 0 ≤ x) → (∃ x ∈ l, 0 < x) → lx (List.replicate l.length 0) l = true
  | [], _, ⟨x, h, _⟩ => by cases h
  | a :: r, h, ⟨x, hx, px⟩ => by
    show (if (0 : Int) = a then lx (List.replicate r.length 0) r else decide (0 < a)) = true
    have h0 := h a (List.mem_cons_self ..)
    by_cases e : (0 : Int) = a
    · rw [if_pos e]
      refine lx_pos r (fun y hy => h y (List.mem_cons_of_mem _ hy)) ?_
      rcases List.mem_cons.mp hx with z | z
      · omega
      · exact ⟨x, z, px⟩
    · rw [if_neg e]
      exact decide_eq_true (by omega)
def posF (l : List Int) : List Int := l.filter fun x => decide (x > 0)
theorem posF_snoc {l : List Int} {i : Nat} {x : Int} (h : l[i]? = some x) : posF (l.take (i + 1)) = if x > 0 then posF (l.take i) ++ [x] else posF (l.take i) := by
  unfold posF
  rw [take_snoc h, List.filter_append]
  by_cases p : x > 0
  · rw [if_pos p, List.filter_cons_of_pos (by simpa using p)]
    rfl
  · rw [if_neg p, List.filter_cons_of_neg (by simpa using p), List.filter_nil, List.append_nil]
section
variable {P : Program} {w : World} {K : PySem.W.Frag} {mg : Str → Option Value} {base : Heap} {C0 C1 C2 C3 : Addr} {D : Kd}
theorem sc32 : FnScope ["_law_dice_here", "_law_measure", "_law_found", "_law_turn", "_law_one", "_law_bottom"] ["_law_dice_here", "_law_measure"] (defScope (top 32)) := ⟨rfl, rfl, rfl, by decide +kernel, rfl, by decide +kernel, by decide +kernel⟩
theorem low_w {a b : Int} (ha : 0 < a) (hb : 0 < b) (h : b < a) (hm : a ≤ 1000000) : isW ⟨Rat.divInt a b, qd_pos ha hb⟩ := by
  have e1 := qd_num (a := a) hb
  have e2 := qd_den (a := a) hb
  have hg : (0 : Int) < (Int.gcd a b : Int) := by
    have : 0 < Int.gcd a b := Int.gcd_pos_of_ne_zero_left _ (by omega)
    omega
  have d1 : (Int.gcd a b : Int) * (a / (Int.gcd a b : Int)) = a := Int.mul_ediv_cancel' (Int.gcd_dvd_left ..)
  have d2 : (Int.gcd a b : Int) * (b / (Int.gcd a b : Int)) = b := Int.mul_ediv_cancel' (Int.gcd_dvd_right ..)
  have l1 : a / (Int.gcd a b : Int) ≤ a := Int.ediv_le_self _ (by omega)
  refine ⟨?_, ?_⟩
  · show ((Rat.divInt a b).den : Int) < (Rat.divInt a b).num
    rw [e1, e2]
    exact Int.lt_of_mul_lt_mul_left (a := (Int.gcd a b : Int)) (by rw [d1, d2]; exact h) (by omega)
  · show (Rat.divInt a b).num ≤ 1000000
    rw [e1]
    omega
theorem odd_good {a : QP} (h : isW a) : wGood (dOdd C3) a := by
  obtain ⟨h1, h2⟩ := h
  have hp := num_pos_of a.2
  refine ⟨⟨?_, ?_⟩, ?_⟩
  · have : a.1.num.natAbs ≤ 1000000 := by omega
    exact Nat.lt_of_le_of_lt this (by decide)
  · have : a.1.den ≤ 1000000 := by omega
    exact Nat.lt_of_le_of_lt this (by decide)
  · show decide ((1 : Rat) < a.1) = true
    refine decide_eq_true ((Rat.lt_iff _ _).mpr ?_)
    show (1 : Int) * (a.1.den : Int) < a.1.num * ((1 : Nat) : Int)
    omega
theorem g_weight (T : Txt K mg C0 C1 C2 C3) (h : Kind C1 C2 C3 D) : Gf P w K mg base 2 "_law_weight" (spWeight D) := by
  refine gf_of T.d_law_weight sc32 (fun vs H Q E h => ?_) (fun _ _ _ _ _ _ us hl => match us, hl with | [_, _], _ => rfl) fun f cdv A outer s H vs Q E hr hh => ?_
  · obtain ⟨d, m, rfl, _⟩ := h
    rfl
  · obtain ⟨d, m, rfl, h0, hm, k⟩ := hh
    refine ⟨_, pss_cons (ps_if (pt_cmpR op_eq (pe_ix ix_tup (pv 1) pe_int (fun _ _ => rfl)) pe_str (nomark _))
        (pss_one (ps_ret (pe_op op_add pe_int (pe_g (g_pull T) hr rfl (pa_cons (pv 0) (pa_cons (pe_ix ix_list (pe_lst (pa_cons pe_int (pa_cons pe_int (pa_cons pe_int (pa_cons (pe_op op_powW pe_int pe_int) pa_nil))))) (pe_g (g_pull T) hr rfl (pa_cons (pv 0) (pa_cons pe_int pa_nil))) (fun _ _ => rfl)) pa_nil)))))) pss_nil)
      (pss_cons (ps_if (pt_cmpR op_eq (pe_ix ix_tup (pv 1) pe_int (fun _ _ => rfl)) pe_str (nomark _))
        (pss_cons (ps_setLc (i := 2) (own := [("_law_turn", 3)]) (g := gName 3) (tt := tYes) (te := tG spPull (tCons (tVar 0) (tCons (tOp (rIxL K) (tLst (tCons (tC (.int 2)) (tCons (tC (.int 3)) (tCons (tC (.int 9)) tNil)))) (tG spPull (tCons (tVar 0) (tCons (tC (.int 3)) tNil)))) tNil))) rfl sc32.nd rfl rfl (sw_true rfl rfl (by decide) (by decide +kernel)) (pi_range1 rfl T.frange (pa_cons (pe_ix ix_tup (pv 1) pe_int (fun _ _ => rfl)) pa_nil))
            (blkOk_by (own := [("_law_turn", 3)]) (N := ["_law_dice_here", "_law_measure", "_law_found", "_law_turn", "_law_one", "_law_bottom"]) (sc := defScope (top 32)) (by decide +kernel))
            (fun _ _ _ _ _ => pg_name (i := 3) sc32.nd rfl (Or.inl rfl)) (fun _ _ _ _ _ => pts_nil)
            (fun s1 H1 c1 cl1 fp1 => ?_))
        (Evl.pss_cut (ps_if (pt_cmpR (op_eqD hr.units)
          (pe_lc (own := [("_law_one", 4)]) (g := gName 4) (tt := tTest (tOp (rI0 fun i j => .bl (decide (i > j))) (tVar 4) (tC (.int 0)))) (te := tVar 4) rfl sc32.nd (pi_list (pv 2))
            (blkOk_by (own := [("_law_one", 4)]) (N := ["_law_dice_here", "_law_measure", "_law_found", "_law_turn", "_law_one", "_law_bottom"]) (sc := defScope (top 32)) (by decide +kernel))
            (fun _ _ _ _ _ => pg_name (i := 4) sc32.nd rfl (Or.inl rfl)) (fun _ _ _ _ _ => pts_one (pt_cmpR op_gt (pv 4) pe_int (nomark _))) (fun _ _ _ _ _ => pv 4)) (pe_lst pa_nil) (nomark _))
          (pss_one (ps_asg pe_int (pg_sub (pv 2) (pe_g (g_pull T) hr rfl (pa_cons (pv 0) (pa_cons (pe_callB call_len_seq rfl T.flen PySem.boot_len (pa_cons (pv 2) pa_nil)) pa_nil))) set_list))) pss_nil)
        (pss_one (ps_ret (pe_callTy call_tuple_of rfl T.ftuple boot_tuple (pa_cons (pv 2) pa_nil)))))) pss_nil)
      (pss_cons (ps_set (i := 5) sc32.nd rfl (Or.inl rfl) (pe_op op_add pe_int (pe_g (g_pull T) hr rfl (pa_cons (pv 0) (pa_cons (pe_ix ix_list (pe_lst (pa_cons pe_int (pa_cons pe_int (pa_cons pe_int (pa_cons pe_int pa_nil))))) (pe_g (g_pull T) hr rfl (pa_cons (pv 0) (pa_cons pe_int pa_nil))) (fun _ _ => rfl)) pa_nil)))))
      (pss_one (ps_ret (pe_g (g_lowest T) hr rfl (pa_cons (pe_op op_add (pe_op op_add (pv 5) pe_int) (pe_g (g_pull T) hr rfl (pa_cons (pv 0) (pa_cons (pe_ix ix_list (pe_lst (pa_cons pe_int (pa_cons pe_int (pa_cons pe_int (pa_cons pe_int pa_nil))))) (pe_g (g_pull T) hr rfl (pa_cons (pv 0) (pa_cons pe_int pa_nil))) (fun _ _ => rfl)) pa_nil)))) (pa_cons (pv 5) pa_nil))))))), ?_⟩
    · exact pe_g (g_pull T) hr rfl (pa_cons (pv 0) (pa_cons (pe_ix ix_list (pe_lst (pa_cons pe_int (pa_cons pe_int (pa_cons pe_int pa_nil)))) (pe_g (g_pull T) hr rfl (pa_cons (pv 0) (pa_cons pe_int pa_nil))) (fun _ _ => rfl)) pa_nil))
    have hp30 : (Builtin.Int.intBits 10 : Int) * 30 ≤ 2 ^ 27 := by decide +kernel
    cases h with
    | sums =>
      refine ⟨_, rfl, m, _, _, _, rfl, rfl, SqT.of hm, atI_nat rfl, rfl, _, rfl, ?_⟩
      rw [show decide (V.str ("sums" : Str) = V.str ("sums" : Str)) = true by decide +kernel]
      have hx : ∀ x ∈ ([2, 3, 9, (10 : Int) ^ (30 : Int).toNat] : List Int), 0 < x ∧ x.natAbs < 2 ^ 200 := by decide +kernel
      refine iteT ⟨_, rfl, _, _, rfl, rfl, ⟨by decide, hp30⟩, (by show 4 ≤ sizeLine; decide), fun q hq => ⟨_, rfl, pick_one K (xs := [2, 3, 9, (10 : Int) ^ (30 : Int).toNat]) h0 hq rfl (by decide) (by decide) fun t H1 ht s1 => ⟨d, t, rfl, s1.2, (hx t ht).1, (hx t ht).2, fun r H2 r0 r1 s2 => ?_⟩⟩⟩
      refine ⟨_, _, rfl, rfl, k _ _ (1 + r : Int) (s1.trans s2) rfl ⟨trivial, ?_⟩ fun e => absurd e (show ¬ (("sums" : Str) = "odds") by decide +kernel)⟩
      show decide ((0 : Int) < 1 + r) = true
      exact decide_eq_true (by omega)
    | cls j h1 h4 =>
      refine ⟨_, rfl, m, _, _, _, rfl, rfl, SqT.of hm, atI_nat rfl, rfl, _, rfl, ?_⟩
      rw [show decide (V.str ("classes" : Str) = V.str ("sums" : Str)) = false by decide +kernel]
      refine iteF ⟨_, rfl, m, _, _, _, rfl, rfl, SqT.of hm, atI_nat rfl, rfl, _, rfl, ?_⟩
      rw [show decide (V.str ("classes" : Str) = V.str ("classes" : Str)) = true by decide +kernel]
      refine iteT ⟨_, rfl, m, _, _, _, rfl, rfl, SqT.of hm, atI_nat rfl, (j : Int), rfl, by omega, by omega, fun R hR => ?_⟩
      have sR : DStep d H (upd H R (.lst [])) := (DStep.refl h0).new hR
      have nR : R ≠ d := fun z => by
        obtain ⟨x, y, u, e⟩ := h0
        rw [← z, hR] at e
        cases e
      have hx : ∀ x ∈ ([2, 3, 9] : List Int), 0 < x ∧ x.natAbs < 2 ^ 200 := by decide +kernel
      refine lc_range (lo := 0) (n := ((j : Int)).toNat) (fun i H2 => DStep d H H2 ∧ ∃ ns : List Int, ns.length = i ∧ (∀ x ∈ ns, 0 ≤ x) ∧ H2 R = some (.lst (ns.map V.int))) ⟨sR, [], rfl, (fun x h => by cases h), upd_same⟩ ?_ ?_
      · rintro i H2 hi ⟨s2, ns, hn, hp, hns⟩
        refine ⟨rfl, _, rfl, (by show 3 ≤ sizeLine; decide), fun q hq => ⟨_, rfl, pick_one K (xs := [2, 3, 9]) s2.2 hq rfl (by decide) (by decide) fun t H3 ht s3 => ⟨d, t, rfl, s3.2, (hx t ht).1, (hx t ht).2, fun r H4 r0 r1 s4 => ?_⟩⟩⟩
        have s24 := s3.trans s4
        refine ⟨_, s24.1 _ _ hns nR, ?_, (s2.trans s24).set h0 hR, ns ++ [r], ?_, ?_, ?_⟩
        · rw [List.length_map]
          exact small1000 (by omega)
        · rw [List.length_append, hn]
          rfl
        · intro x hx
          rcases List.mem_append.mp hx with z | z
          · exact hp x z
          · rw [List.mem_singleton.mp z]
            exact r0
        · rw [upd_same, List.map_append]
          rfl
      · rintro H2 ⟨s2, ns, hn, hp, hns⟩
        have hn : ns.length = j := by omega
        refine ⟨fun σ' H' => ∃ ns : List Int, σ' = [some (.ref d), some (.ref m), some (.ref R), none, none, none] ∧ DStep d H H' ∧ ns.length = j ∧ (∀ x ∈ ns, 0 ≤ x) ∧ (∃ x ∈ ns, 0 < x) ∧ H' R = some (.lst (ns.map V.int)), ?_, ?_⟩
        · refine ⟨_, rfl, R, rfl, ⟨_, SqL.of hns⟩, fun D2 hD2 => lc_list (K := K) (a := R) (xs := ns.map V.int) (fun i H3 => Same H2 H3 ∧ H3 D2 = some (.lst ((posF (ns.take i)).map V.int))) ⟨Same.new hD2, upd_same⟩
            (fun i H3 _ ⟨s3, _⟩ => SqL.of (s3 _ _ hns)) ?_ ?_⟩
          · rintro i x H3 hx3 ⟨s3, hl3⟩
            obtain ⟨y, hy, rfl⟩ := map_at hx3
            have hi : i < ns.length := (List.getElem?_eq_some_iff.mp hy).1
            refine ⟨rfl, _, rfl, _, _, rfl, rfl, _, rfl, ?_⟩
            have ep := posF_snoc hy
            by_cases py : y > 0
            · rw [if_pos py] at ep
              rw [decide_eq_true py, ep]
              refine iteT ⟨_, rfl, _, hl3, ?_, ?_, ?_⟩
              · rw [List.length_map]
                have : (posF (ns.take i)).length ≤ (ns.take i).length := List.length_filter_le _ _
                rw [List.length_take] at this
                exact small1000 (by omega)
              · exact fun c o q => by rw [upd_ne (fun z => by rw [z, hD2] at q; cases q)]; exact s3 _ _ q
              · rw [upd_same, List.map_append]
                rfl
            · rw [if_neg py] at ep
              rw [decide_eq_false py, ep]
              exact iteF ⟨s3, hl3⟩
          · rintro H3 ⟨s3, hl3⟩
            rw [List.length_map, List.take_length] at hl3
            refine ⟨Nat.zero_le _, fun Z hZ => ⟨_, _, .lst (SqL.of (Same.new hZ _ _ hl3)) (dpAll_ints K _ _), .lst (SqL.of upd_same) .nil, ?_, by decide, _, rfl, ?_⟩⟩
            · simp [SeqAt.shaped, PyData.canLay0, PyData.depth, canLay_ints, depth_ints]
            · have s4 := s3.trans (Same.new (o := .lst []) hZ)
              have e : PyData.eqv (.list ((posF ns).map .int)) (.list []) = decide (posF ns = []) := by
                have := eqv_ints (posF ns) []
                simpa [PyData.eqv] using this
              rw [e]
              by_cases pz : posF ns = []
              · rw [decide_eq_true pz]
                refine iteT ⟨_, rfl, _, rfl, _, rfl, R, _, rfl, .inl (SqL.of (s4 _ _ hns)), d, _, rfl, (DStep.same s2 s4).2, ?_, ?_, fun r H5 r0 r1 s5 => ?_⟩
                · rw [List.length_map]
                  omega
                · rw [List.length_map]
                  have : ((ns.length : Int)).natAbs ≤ 4 := by omega
                  exact Nat.lt_of_le_of_lt this (by decide)
                · rw [List.length_map] at r1
                  have hR5 := s5.1 _ _ (s4 _ _ hns) nR
                  have hi : r.toNat < ns.length := by omega
                  refine ⟨R, _, r, r.toNat, rfl, rfl, hR5, ?_, ns.set r.toNat 1, rfl, ((DStep.same s2 s4).trans s5).set h0 hR, ?_, ?_, ?_, ?_⟩
                  · have := Evl.ixN_nat (n := (ns.map V.int).length) (j := r.toNat) (by rw [List.length_map]; exact hi)
                    rw [Int.toNat_of_nonneg r0] at this
                    exact this
                  · rw [List.length_set, hn]
                  · intro x hx
                    rcases List.mem_or_eq_of_mem_set hx with z | z
                    · exact hp x z
                    · rw [z]
                      decide
                  · exact ⟨1, List.mem_set hi 1, by decide⟩
                  · rw [upd_same, List.map_set]
              · rw [decide_eq_false pz]
                refine iteF ⟨ns, rfl, DStep.same s2 s4, hn, hp, ?_, s4 _ _ hns⟩
                obtain ⟨x, hx⟩ := List.exists_mem_of_ne_nil _ pz
                obtain ⟨h1, h2⟩ := List.mem_filter.mp hx
                exact ⟨x, h1, of_decide_eq_true h2⟩
        · rintro σ' H' ⟨ns, rfl, s', hn, hp, hpos, hR'⟩
          refine ⟨_, rfl, R, _, rfl, .inl ⟨SqL.of hR', fun z hz => ?_⟩⟩
          refine k _ _ ⟨ns, hn⟩ (s'.new hz) ⟨z, rfl, upd_same⟩ ⟨trivial, ?_⟩ fun e => absurd e (show ¬ (("classes" : Str) = "odds") by decide +kernel)
          have e := lx_pos ns hp hpos
          rw [hn] at e
          exact e
    | odds =>
      refine ⟨_, rfl, m, _, _, _, rfl, rfl, SqT.of hm, atI_nat rfl, rfl, _, rfl, ?_⟩
      rw [show decide (V.str ("odds" : Str) = V.str ("sums" : Str)) = false by decide +kernel]
      refine iteF ⟨_, rfl, m, _, _, _, rfl, rfl, SqT.of hm, atI_nat rfl, rfl, _, rfl, ?_⟩
      rw [show decide (V.str ("odds" : Str) = V.str ("classes" : Str)) = false by decide +kernel]
      have hx : ∀ x ∈ ([1, 3, 12, 999] : List Int), 0 < x ∧ x ≤ 999 := by decide +kernel
      have hy : ∀ x ∈ ([1, 4, 20, 990000] : List Int), 0 < x ∧ x ≤ 990000 := by decide +kernel
      have big : ∀ x : Int, x ≤ 990000 → 0 < x → x.natAbs < 2 ^ 200 := fun x h1 h2 => Nat.lt_of_le_of_lt (show x.natAbs ≤ 990000 by omega) (by decide)
      refine iteF ⟨_, rfl, (by show 4 ≤ sizeLine; decide), fun q hq => ⟨_, rfl, pick_one K (xs := [1, 3, 12, 999]) h0 hq rfl (by decide) (by decide) fun t H1 ht s1 => ?_⟩⟩
      obtain ⟨t0, t1⟩ := hx t ht
      refine ⟨d, t, rfl, s1.2, t0, big t (by omega) t0, fun r H2 r0 r1 s2 => ⟨_, _, rfl, rfl, ?_⟩⟩
      refine ⟨_, rfl, _, _, rfl, rfl, _, rfl, (by show 4 ≤ sizeLine; decide), fun q2 hq2 => ⟨_, rfl, pick_one K (xs := [1, 4, 20, 990000]) s2.2 hq2 rfl (by decide) (by decide) fun u H3 hu s3 => ?_⟩⟩
      obtain ⟨u0, u1⟩ := hy u hu
      refine ⟨d, u, rfl, s3.2, u0, big u u1 u0, fun r2 H4 r20 r21 s4 => ⟨_, _, rfl, rfl, _, rfl, ?_⟩⟩
      have p1 : 0 < 1 + r + 1 + r2 := by omega
      have p2 : 0 < 1 + r := by omega
      have b1 : (1 + r + 1 + r2).natAbs < 2 ^ 20 := by omega
      have b2 : (1 + r).natAbs < 2 ^ 20 := by omega
      refine ⟨1 + r + 1 + r2, 1 + r, 20, rfl, by omega, p2, b1, b2, by decide, fun p hp => ?_⟩
      have hw : isW ⟨Rat.divInt (1 + r + 1 + r2) (1 + r), qd_pos p1 p2⟩ := low_w p1 p2 (by omega) (by omega)
      exact k _ _ ⟨Rat.divInt (1 + r + 1 + r2) (1 + r), qd_pos p1 p2⟩ ((s1.trans (s2.trans (s3.trans s4))).new hp) ⟨p, rfl, upd_same⟩ (odd_good hw) fun _ => hw
end
end Mo

set_option Elab.async false
set_option linter.all false
set_option maxRecDepth 100000
set_option maxHeartbeats 4000000
namespace Mo
open PySem PySem.Spec PyProof.Rows L2
/-! ### _law_threes_right -/
section
variable {G : Grp}
theorem th1 (a b c : G.α) : G.sum [a, b, c] = G.sum [G.sum [c, a], b] := by
  rw [Grp.sum_cons, Grp.sum_two, Grp.sum_two, Grp.sum_two, G.comm c a, G.assoc, G.comm b c]
theorem th2 (a b : G.α) : G.sum [a, b] = G.sum [b, a] := by rw [Grp.sum_two, Grp.sum_two, G.comm]
theorem th3 (a : G.α) : G.sum [a, G.neg a] = G.zero := by rw [Grp.sum_two, G.addn]
theorem th4 (a : G.α) : G.sum [a, G.zero] = a := by rw [Grp.sum_two, G.addz]
theorem th5 (a b : G.α) : G.add a (G.neg b) = G.sum [a, G.neg b] := by rw [Grp.sum_two]
theorem th6 (a b : G.α) : G.sum [G.add a (G.neg b), b] = a := by rw [Grp.sum_two, Grp.sub_add]
theorem th8 (a : G.α) : G.add a a = G.sum [a, a] := by rw [Grp.sum_two]
theorem th_add (a b c : G.α) : G.lt a b = G.lt (G.sum [a, c]) (G.sum [b, c]) := by rw [Grp.sum_two, Grp.sum_two, G.ltadd]
theorem th_ne {a b : G.α} (h : G.lt a b = true) : ¬ G.am a = G.am b := fun e => by
  rw [G.inj _ _ e, G.irr] at h
  cases h
theorem th_cnt (a b : G.α) : ([V.bl (G.lt a b), V.bl (decide (G.am a = G.am b)), V.bl (G.lt b a)].countP fun z => eqV z (.bl true)) = 1 := by
  rcases G.tri a b with h | h | h
  · rw [h, Grp.asym a b h, decide_eq_false (th_ne h)]
    rfl
  · subst h
    rw [G.irr, decide_eq_true rfl]
    rfl
  · rw [h, Grp.asym b a h, decide_eq_false fun e => th_ne h e.symm]
    rfl
theorem th_sg (a b : G.α) : sgI G (G.add a (G.neg b)) = (if G.lt b a = true then 1 else 0) - (if G.lt a b = true then 1 else 0) := by
  unfold sgI
  rw [Grp.sub_lt]
  rcases G.tri a b with h | h | h
  · have hn : ¬ G.am (G.add a (G.neg b)) = G.am G.zero := fun e => by
      have := Grp.sub_zero a b (G.inj _ _ e)
      rw [this, G.irr] at h
      cases h
    rw [if_neg hn, h, Grp.asym a b h]
    rfl
  · subst h
    rw [G.addn, if_pos rfl, G.irr]
    rfl
  · have hn : ¬ G.am (G.add a (G.neg b)) = G.am G.zero := fun e => by
      have := Grp.sub_zero a b (G.inj _ _ e)
      rw [this, G.irr] at h
      cases h
    rw [if_neg hn, h, Grp.asym b a h]
    rfl
theorem ok_nil {S : Nat} : ∀ z ∈ ([] : List G.α), G.ok S z := fun z h => by cases h
theorem ok_cons {S : Nat} {x : G.α} {l : List G.α} (h : G.ok S x) (r : ∀ z ∈ l, G.ok S z) : ∀ z ∈ x :: l, G.ok S z := fun z hz => by
  rcases List.mem_cons.mp hz with e | e
  · exact e ▸ h
  · exact r z e
end
def spThrees (D : Kd) : Sp := fun vs H Q _ => ∃ p va vb vc a b c, vs = [.ref p, va, vb, vc] ∧ ScAt D H p ∧ AmV H va (D.G.am a) ∧ AmV H vb (D.G.am b) ∧ AmV H vc (D.G.am c) ∧ D.G.ok 140 a ∧ D.G.ok 140 b ∧ D.G.ok 140 c ∧ ∀ H', Same H H' → Q (.bl true) H'
section
variable {P : Program} {w : World} {K : PySem.W.Frag} {mg : Str → Option Value} {base : Heap} {C0 C1 C2 C3 : Addr} {D : Kd}
theorem sc35 : FnScope ["_law_meter", "_law_a", "_law_b", "_law_c", "_law_three"] ["_law_meter", "_law_a", "_law_b", "_law_c"] (defScope (top 35)) := ⟨rfl, rfl, rfl, by decide +kernel, rfl, by decide +kernel, by decide +kernel⟩
theorem g_threes (T : Txt K mg C0 C1 C2 C3) (B : Abs P w K mg base C0 D) : Gf P w K mg base 10 "_law_threes_right" (spThrees D) := by
  obtain ⟨nn, q0, q1, q2, q3, q4, q5, ct⟩ := B.ct
  refine gf_of T.d_law_threes_right sc35 (fun vs H Q E h => ?_) (fun _ _ _ _ _ _ us hl => match us, hl with | [_, _, _, _], _ => rfl) fun f cdv A outer s H vs Q E hr h => ?_
  · obtain ⟨p, va, vb, vc, a, b, c, rfl, _⟩ := h
    rfl
  · obtain ⟨p, va, vb, vc, a, b, c, rfl, hs0, ha0, hb0, hc0, oa, ob, oc, k⟩ := h

    refine ⟨_, (pss_cons (ps_if (PW.pt (pw_or (pt_cmpR (op_neA hr) (pe_m (m_plus T B) ct.cl hr (pv 0) (pa_cons (pv 1) (pa_cons (pv 2) (pa_cons (pv 3) pa_nil)))) (pe_m (m_plus T B) ct.cl hr (pv 0) (pa_cons (pe_m (m_plus T B) ct.cl hr (pv 0) (pa_cons (pv 3) (pa_cons (pv 1) pa_nil))) (pa_cons (pv 2) pa_nil))) (nomark _)) (pw_or1 (pt_cmpR (op_neA hr) (pe_m (m_plus T B) ct.cl hr (pv 0) (pa_cons (pv 1) (pa_cons (pv 2) pa_nil))) (pe_m (m_plus T B) ct.cl hr (pv 0) (pa_cons (pv 2) (pa_cons (pv 1) pa_nil))) (nomark _))))) (pss_one (ps_ret pe_bl)) pss_nil)
      (pss_cons (ps_if (PW.pt (pw_or (pt_cmpR (op_neA hr) (pe_m (m_plus T B) ct.cl hr (pv 0) (pa_cons (pv 1) (pa_cons (pe_m (m_neg T B) ct.cl hr (pv 0) (pa_cons (pv 1) pa_nil)) pa_nil))) (pe_z ct hr (pv 0)) (nomark _)) (pw_or1 (pt_cmpR (op_neA hr) (pe_m (m_plus T B) ct.cl hr (pv 0) (pa_cons (pv 1) (pa_cons (pe_z ct hr (pv 0)) pa_nil))) (pv 1) (nomark _))))) (pss_one (ps_ret pe_bl)) pss_nil)
      (pss_cons (ps_if (PW.pt (pw_or (pt_cmpR (op_neA hr) (pe_m (m_minus T B) ct.cl hr (pv 0) (pa_cons (pv 1) (pa_cons (pv 2) pa_nil))) (pe_m (m_plus T B) ct.cl hr (pv 0) (pa_cons (pv 1) (pa_cons (pe_m (m_neg T B) ct.cl hr (pv 0) (pa_cons (pv 2) pa_nil)) pa_nil))) (nomark _)) (pw_or1 (pt_cmpR (op_neA hr) (pe_m (m_plus T B) ct.cl hr (pv 0) (pa_cons (pe_m (m_minus T B) ct.cl hr (pv 0) (pa_cons (pv 1) (pa_cons (pv 2) pa_nil))) (pa_cons (pv 2) pa_nil))) (pv 1) (nomark _))))) (pss_one (ps_ret pe_bl)) pss_nil)
      (pss_cons (ps_if (PW.pt (pw_or (pt_cmpR (op_neA hr) (pe_m (m_neg T B) ct.cl hr (pv 0) (pa_cons (pe_m (m_neg T B) ct.cl hr (pv 0) (pa_cons (pv 1) pa_nil)) pa_nil)) (pv 1) (nomark _)) (pw_or1 (pt_cmpR (op_neA hr) (pe_m (m_twice T B) ct.cl hr (pv 0) (pa_cons (pv 1) pa_nil)) (pe_m (m_plusA T B) ct.cl hr (pv 0) (pa_cons (pe_tup (pa_cons (pv 1) (pa_cons (pv 1) pa_nil))) pa_nil)) (nomark _))))) (pss_one (ps_ret pe_bl)) pss_nil)
      (pss_cons (ps_if (pt_cmpR op_ne (pe_bm PySem.F.plainAttrs_list PySem.F.slot_list_count PySem.F.type_list_count mt_countV (pe_lst (pa_cons (pe_m (m_less T B) ct.cl hr (pv 0) (pa_cons (pv 1) (pa_cons (pv 2) pa_nil))) (pa_cons (pe_cmpR (op_eqA hr) (pv 1) (pv 2) (nomark _)) (pa_cons (pe_m (m_less T B) ct.cl hr (pv 0) (pa_cons (pv 2) (pa_cons (pv 1) pa_nil))) pa_nil)))) (pa_cons pe_bl pa_nil)) pe_int (nomark _)) (pss_one (ps_ret pe_bl)) pss_nil)
      (pss_cons (ps_if (pt_cmpR op_ne (pe_m (m_less T B) ct.cl hr (pv 0) (pa_cons (pv 1) (pa_cons (pv 2) pa_nil))) (pe_m (m_less T B) ct.cl hr (pv 0) (pa_cons (pe_m (m_plus T B) ct.cl hr (pv 0) (pa_cons (pv 1) (pa_cons (pv 3) pa_nil))) (pa_cons (pe_m (m_plus T B) ct.cl hr (pv 0) (pa_cons (pv 2) (pa_cons (pv 3) pa_nil))) pa_nil))) (nomark _)) (pss_one (ps_ret pe_bl)) pss_nil)
      (pss_cons (ps_if (pt_cmpR op_ne (pe_m (m_less T B) ct.cl hr (pv 0) (pa_cons (pv 1) (pa_cons (pv 2) pa_nil))) (pe_m (m_less T B) ct.cl hr (pv 0) (pa_cons (pe_m (m_neg T B) ct.cl hr (pv 0) (pa_cons (pv 2) pa_nil)) (pa_cons (pe_m (m_neg T B) ct.cl hr (pv 0) (pa_cons (pv 1) pa_nil)) pa_nil))) (nomark _)) (pss_one (ps_ret pe_bl)) pss_nil)
      (Evl.pss_cut (ps_if (PW.pt (pw_and (pt_val (pe_m (m_less T B) ct.cl hr (pv 0) (pa_cons (pv 1) (pa_cons (pv 2) pa_nil)))) (pw_and (pt_val (pe_m (m_less T B) ct.cl hr (pv 0) (pa_cons (pv 2) (pa_cons (pv 3) pa_nil)))) (pw_and1 (pt_not (pt_val (pe_m (m_less T B) ct.cl hr (pv 0) (pa_cons (pv 1) (pa_cons (pv 3) pa_nil))))))))) (pss_one (ps_ret pe_bl)) pss_nil)
      (pss_cons (ps_if (pt_cmpR op_ne (pe_m (m_sign T B) ct.cl hr (pv 0) (pa_cons (pe_m (m_minus T B) ct.cl hr (pv 0) (pa_cons (pv 1) (pa_cons (pv 2) pa_nil))) pa_nil)) (pe_op op_sub (pe_callTy call_int1 rfl T.fint boot_int (pa_cons (pe_m (m_less T B) ct.cl hr (pv 0) (pa_cons (pv 2) (pa_cons (pv 1) pa_nil))) pa_nil)) (pe_callTy call_int1 rfl T.fint boot_int (pa_cons (pe_m (m_less T B) ct.cl hr (pv 0) (pa_cons (pv 1) (pa_cons (pv 2) pa_nil))) pa_nil))) (nomark _)) (pss_one (ps_ret pe_bl)) pss_nil)
      (pss_cons (ps_set (i := 4) sc35.nd rfl (Or.inl rfl) (pe_tup (pa_cons (pv 1) (pa_cons (pv 2) (pa_cons (pv 3) pa_nil)))))
      (pss_cons (ps_if (pt_cmpR (op_notInO (m_cont B) hr) (pe_m (m_plusA T B) ct.cl hr (pv 0) (pa_cons (pv 4) pa_nil)) (pv 0) rfl) (pss_one (ps_ret pe_bl)) pss_nil)
      (pss_one (ps_ret (pe_cmpR (op_eqA hr) (pe_m (m_great T B) ct.cl hr (pv 0) (pa_cons (pv 1) (pa_cons (pv 2) (pa_cons (pv 3) pa_nil)))) (pe_ix ix_tup (pv 4) (pe_ix ix_tup (pe_m (m_ranked T B) ct.cl hr (pv 0) (pa_cons (pv 4) pa_nil)) pe_int (fun _ _ => rfl)) (fun _ _ => rfl)) (nomark _))))))))))))))), ?_⟩
    have hs := hs0
    have ha := ha0
    have hb := hb0
    have hc := hc0
    have s0 := Same.refl H
    obtain ⟨dx1, fs1, g1, f1⟩ := sc_recv (m := "plus") hs (by decide +kernel)
    refine ⟨_, rfl, p, _, _, rfl, g1, f1, _, rfl, _, rfl, _, rfl, p, _, [a, b, c], 140, rfl, hs, (.cons ha (.cons hb (.cons hc .nil))), (ok_cons (D.G.ok_mono 140 140 _ (by decide) oa) (ok_cons (D.G.ok_mono 140 140 _ (by decide) ob) (ok_cons (D.G.ok_mono 140 140 _ (by decide) oc) ok_nil))), (by show 3 * 140 + 1 ≤ 8000; decide), (by show 3 ≤ 5; decide), fun z2 H2 s2 hz2 => ?_⟩
    replace hs := hs.mono s2
    replace ha := ha.mono s2
    replace hb := hb.mono s2
    replace hc := hc.mono s2
    replace s0 := s0.trans s2
    obtain ⟨dx3, fs3, g3, f3⟩ := sc_recv (m := "plus") hs (by decide +kernel)
    obtain ⟨dx4, fs4, g4, f4⟩ := sc_recv (m := "plus") hs (by decide +kernel)
    refine ⟨_, rfl, p, _, _, rfl, g3, f3, _, rfl, p, _, _, rfl, g4, f4, _, rfl, _, rfl, p, _, [c, a], 140, rfl, hs, (.cons hc (.cons ha .nil)), (ok_cons (D.G.ok_mono 140 140 _ (by decide) oc) (ok_cons (D.G.ok_mono 140 140 _ (by decide) oa) ok_nil)), (by show 2 * 140 + 1 ≤ 8000; decide), (by show 2 ≤ 5; decide), fun z5 H5 s5 hz5 => ?_⟩
    replace hs := hs.mono s5
    replace ha := ha.mono s5
    replace hb := hb.mono s5
    replace hc := hc.mono s5
    replace hz2 := hz2.mono s5
    replace s0 := s0.trans s5
    refine ⟨_, rfl, p, _, [(D.G.sum [c, a]), b], 281, rfl, hs, (.cons hz5 (.cons hb .nil)), (ok_cons (D.G.ok_mono 281 281 _ (by decide) (D.G.ok_mono _ 281 _ (by show 2 * 140 + 1 ≤ 281; decide) (Grp.ok_sum (ok_cons (D.G.ok_mono 140 140 _ (by decide) oc) (ok_cons (D.G.ok_mono 140 140 _ (by decide) oa) ok_nil))))) (ok_cons (D.G.ok_mono 140 281 _ (by decide) ob) ok_nil)), (by show 2 * 281 + 1 ≤ 8000; decide), (by show 2 ≤ 5; decide), fun z6 H6 s6 hz6 => ?_⟩
    replace hs := hs.mono s6
    replace ha := ha.mono s6
    replace hb := hb.mono s6
    replace hc := hc.mono s6
    replace hz2 := hz2.mono s6
    replace hz5 := hz5.mono s6
    replace s0 := s0.trans s6
    refine ⟨(D.G.am (D.G.sum [a, b, c])), (D.G.am (D.G.sum [(D.G.sum [c, a]), b])), hz2, hz6, _, rfl, ?_⟩
    rw [decide_eq_true (congrArg D.G.am (th1 a b c))]
    refine iteF ?_
    obtain ⟨dx7, fs7, g7, f7⟩ := sc_recv (m := "plus") hs (by decide +kernel)
    refine ⟨_, rfl, p, _, _, rfl, g7, f7, _, rfl, _, rfl, p, _, [a, b], 140, rfl, hs, (.cons ha (.cons hb .nil)), (ok_cons (D.G.ok_mono 140 140 _ (by decide) oa) (ok_cons (D.G.ok_mono 140 140 _ (by decide) ob) ok_nil)), (by show 2 * 140 + 1 ≤ 8000; decide), (by show 2 ≤ 5; decide), fun z8 H8 s8 hz8 => ?_⟩
    replace hs := hs.mono s8
    replace ha := ha.mono s8
    replace hb := hb.mono s8
    replace hc := hc.mono s8
    replace s0 := s0.trans s8
    obtain ⟨dx9, fs9, g9, f9⟩ := sc_recv (m := "plus") hs (by decide +kernel)
    refine ⟨_, rfl, p, _, _, rfl, g9, f9, _, rfl, _, rfl, p, _, [b, a], 140, rfl, hs, (.cons hb (.cons ha .nil)), (ok_cons (D.G.ok_mono 140 140 _ (by decide) ob) (ok_cons (D.G.ok_mono 140 140 _ (by decide) oa) ok_nil)), (by show 2 * 140 + 1 ≤ 8000; decide), (by show 2 ≤ 5; decide), fun z10 H10 s10 hz10 => ?_⟩
    replace hs := hs.mono s10
    replace ha := ha.mono s10
    replace hb := hb.mono s10
    replace hc := hc.mono s10
    replace hz8 := hz8.mono s10
    replace s0 := s0.trans s10
    refine ⟨(D.G.am (D.G.sum [a, b])), (D.G.am (D.G.sum [b, a])), hz8, hz10, _, rfl, ?_⟩
    rw [decide_eq_true (congrArg D.G.am (th2 a b))]
    refine iteF ?_
    obtain ⟨dx11, fs11, g11, f11⟩ := sc_recv (m := "plus") hs (by decide +kernel)
    obtain ⟨dx12, fs12, g12, f12⟩ := sc_recv (m := "negative") hs (by decide +kernel)
    refine ⟨_, rfl, p, _, _, rfl, g11, f11, _, rfl, _, rfl, p, _, _, rfl, g12, f12, _, rfl, p, _, a, rfl, hs, ha, fun z13 H13 s13 hz13 => ?_⟩
    replace hs := hs.mono s13
    replace ha := ha.mono s13
    replace hb := hb.mono s13
    replace hc := hc.mono s13
    replace s0 := s0.trans s13
    refine ⟨p, _, [a, (D.G.neg a)], 140, rfl, hs, (.cons ha (.cons hz13 .nil)), (ok_cons (D.G.ok_mono 140 140 _ (by decide) oa) (ok_cons (D.G.ok_mono 140 140 _ (by decide) (D.G.ok_neg _ _ oa)) ok_nil)), (by show 2 * 140 + 1 ≤ 8000; decide), (by show 2 ≤ 5; decide), fun z14 H14 s14 hz14 => ?_⟩
    replace hs := hs.mono s14
    replace ha := ha.mono s14
    replace hb := hb.mono s14
    replace hc := hc.mono s14
    replace hz13 := hz13.mono s14
    replace s0 := s0.trans s14
    obtain ⟨dx15, fs15, g15, f15⟩ := sc_recv (m := "plus") hs (by decide +kernel)
    refine ⟨_, rfl, p, _, _, rfl, g15, p, rfl, hs, fun z15 hz15 => ?_⟩
    refine ⟨(D.G.am (D.G.sum [a, (D.G.neg a)])), (D.G.am D.G.zero), hz14, hz15, _, rfl, ?_⟩
    rw [decide_eq_true (congrArg D.G.am (th3 a))]
    refine iteF ?_
    obtain ⟨dx16, fs16, g16, f16⟩ := sc_recv (m := "plus") hs (by decide +kernel)
    obtain ⟨dx17, fs17, g17, f17⟩ := sc_recv (m := "plus") hs (by decide +kernel)
    refine ⟨_, rfl, p, _, _, rfl, g16, f16, _, rfl, _, rfl, p, _, _, rfl, g17, p, rfl, hs, fun z17 hz17 => ?_⟩
    refine ⟨p, _, [a, D.G.zero], 140, rfl, hs, (.cons ha (.cons hz17 .nil)), (ok_cons (D.G.ok_mono 140 140 _ (by decide) oa) (ok_cons (D.G.ok_mono 1 140 _ (by decide) D.G.ok_zero) ok_nil)), (by show 2 * 140 + 1 ≤ 8000; decide), (by show 2 ≤ 5; decide), fun z18 H18 s18 hz18 => ?_⟩
    replace hs := hs.mono s18
    replace ha := ha.mono s18
    replace hb := hb.mono s18
    replace hc := hc.mono s18
    replace hz17 := hz17.mono s18
    replace s0 := s0.trans s18
    refine ⟨_, rfl, (D.G.am (D.G.sum [a, D.G.zero])), (D.G.am a), hz18, ha, _, rfl, ?_⟩
    rw [decide_eq_true (congrArg D.G.am (th4 a))]
    refine iteF ?_
    obtain ⟨dx19, fs19, g19, f19⟩ := sc_recv (m := "minus") hs (by decide +kernel)
    refine ⟨_, rfl, p, _, _, rfl, g19, f19, _, rfl, _, rfl, p, _, _, a, b, rfl, hs, ha, hb, (D.G.ok_mono 140 3000 _ (by decide) oa), (D.G.ok_mono 140 3000 _ (by decide) ob), fun z20 H20 s20 hz20 => ?_⟩
    replace hs := hs.mono s20
    replace ha := ha.mono s20
    replace hb := hb.mono s20
    replace hc := hc.mono s20
    replace s0 := s0.trans s20
    obtain ⟨dx21, fs21, g21, f21⟩ := sc_recv (m := "plus") hs (by decide +kernel)
    obtain ⟨dx22, fs22, g22, f22⟩ := sc_recv (m := "negative") hs (by decide +kernel)
    refine ⟨_, rfl, p, _, _, rfl, g21, f21, _, rfl, _, rfl, p, _, _, rfl, g22, f22, _, rfl, p, _, b, rfl, hs, hb, fun z23 H23 s23 hz23 => ?_⟩
    replace hs := hs.mono s23
    replace ha := ha.mono s23
    replace hb := hb.mono s23
    replace hc := hc.mono s23
    replace hz20 := hz20.mono s23
    replace s0 := s0.trans s23
    refine ⟨p, _, [a, (D.G.neg b)], 140, rfl, hs, (.cons ha (.cons hz23 .nil)), (ok_cons (D.G.ok_mono 140 140 _ (by decide) oa) (ok_cons (D.G.ok_mono 140 140 _ (by decide) (D.G.ok_neg _ _ ob)) ok_nil)), (by show 2 * 140 + 1 ≤ 8000; decide), (by show 2 ≤ 5; decide), fun z24 H24 s24 hz24 => ?_⟩
    replace hs := hs.mono s24
    replace ha := ha.mono s24
    replace hb := hb.mono s24
    replace hc := hc.mono s24
    replace hz20 := hz20.mono s24
    replace hz23 := hz23.mono s24
    replace s0 := s0.trans s24
    refine ⟨(D.G.am (D.G.add a (D.G.neg b))), (D.G.am (D.G.sum [a, (D.G.neg b)])), hz20, hz24, _, rfl, ?_⟩
    rw [decide_eq_true (congrArg D.G.am (th5 a b))]
    refine iteF ?_
    obtain ⟨dx25, fs25, g25, f25⟩ := sc_recv (m := "plus") hs (by decide +kernel)
    obtain ⟨dx26, fs26, g26, f26⟩ := sc_recv (m := "minus") hs (by decide +kernel)
    refine ⟨_, rfl, p, _, _, rfl, g25, f25, _, rfl, p, _, _, rfl, g26, f26, _, rfl, _, rfl, p, _, _, a, b, rfl, hs, ha, hb, (D.G.ok_mono 140 3000 _ (by decide) oa), (D.G.ok_mono 140 3000 _ (by decide) ob), fun z27 H27 s27 hz27 => ?_⟩
    replace hs := hs.mono s27
    replace ha := ha.mono s27
    replace hb := hb.mono s27
    replace hc := hc.mono s27
    replace s0 := s0.trans s27
    refine ⟨_, rfl, p, _, [(D.G.add a (D.G.neg b)), b], 280, rfl, hs, (.cons hz27 (.cons hb .nil)), (ok_cons (D.G.ok_mono 280 280 _ (by decide) (D.G.ok_add _ _ _ _ oa (D.G.ok_neg _ _ ob))) (ok_cons (D.G.ok_mono 140 280 _ (by decide) ob) ok_nil)), (by show 2 * 280 + 1 ≤ 8000; decide), (by show 2 ≤ 5; decide), fun z28 H28 s28 hz28 => ?_⟩
    replace hs := hs.mono s28
    replace ha := ha.mono s28
    replace hb := hb.mono s28
    replace hc := hc.mono s28
    replace hz27 := hz27.mono s28
    replace s0 := s0.trans s28
    refine ⟨_, rfl, (D.G.am (D.G.sum [(D.G.add a (D.G.neg b)), b])), (D.G.am a), hz28, ha, _, rfl, ?_⟩
    rw [decide_eq_true (congrArg D.G.am (th6 a b))]
    refine iteF ?_
    obtain ⟨dx29, fs29, g29, f29⟩ := sc_recv (m := "negative") hs (by decide +kernel)
    obtain ⟨dx30, fs30, g30, f30⟩ := sc_recv (m := "negative") hs (by decide +kernel)
    refine ⟨_, rfl, p, _, _, rfl, g29, f29, _, rfl, p, _, _, rfl, g30, f30, _, rfl, p, _, a, rfl, hs, ha, fun z31 H31 s31 hz31 => ?_⟩
    replace hs := hs.mono s31
    replace ha := ha.mono s31
    replace hb := hb.mono s31
    replace hc := hc.mono s31
    replace s0 := s0.trans s31
    refine ⟨p, _, (D.G.neg a), rfl, hs, hz31, fun z32 H32 s32 hz32 => ?_⟩
    replace hs := hs.mono s32
    replace ha := ha.mono s32
    replace hb := hb.mono s32
    replace hc := hc.mono s32
    replace hz31 := hz31.mono s32
    replace s0 := s0.trans s32
    refine ⟨_, rfl, (D.G.am (D.G.neg (D.G.neg a))), (D.G.am a), hz32, ha, _, rfl, ?_⟩
    rw [decide_eq_true (congrArg D.G.am (Grp.neg_neg a))]
    refine iteF ?_
    obtain ⟨dx33, fs33, g33, f33⟩ := sc_recv (m := "twice") hs (by decide +kernel)
    refine ⟨_, rfl, p, _, _, rfl, g33, f33, _, rfl, p, _, a, rfl, hs, ha, (D.G.ok_mono 140 3000 _ (by decide) oa), fun z34 H34 s34 hz34 => ?_⟩
    replace hs := hs.mono s34
    replace ha := ha.mono s34
    replace hb := hb.mono s34
    replace hc := hc.mono s34
    replace s0 := s0.trans s34
    obtain ⟨dx35, fs35, g35, f35⟩ := sc_recv (m := "plus_all") hs (by decide +kernel)
    refine ⟨_, rfl, p, _, _, rfl, g35, f35, _, rfl, _, rfl, (by show 2 ≤ sizeLine; decide), fun t36 ht36 => ?_⟩
    have s36 := Same.new (H := H34) (o := (HO.tup [va, va])) ht36
    replace hs := hs.mono s36
    replace ha := ha.mono s36
    replace hb := hb.mono s36
    replace hc := hc.mono s36
    replace hz34 := hz34.mono s36
    replace s0 := s0.trans s36
    have hu36 : (upd H34 t36 (HO.tup [va, va])) t36 = some (HO.tup [va, va]) := upd_same
    refine ⟨p, t36, _, [a, a], 140, rfl, hs, hu36, (.cons ha (.cons ha .nil)), (ok_cons (D.G.ok_mono 140 140 _ (by decide) oa) (ok_cons (D.G.ok_mono 140 140 _ (by decide) oa) ok_nil)), (by show 2 * 140 + 1 ≤ 8000; decide), (by show 2 ≤ 100; decide), fun z37 H37 s37 hz37 => ?_⟩
    replace hs := hs.mono s37
    replace ha := ha.mono s37
    replace hb := hb.mono s37
    replace hc := hc.mono s37
    replace hz34 := hz34.mono s37
    replace hu36 := s37 _ _ hu36
    replace s0 := s0.trans s37
    refine ⟨(D.G.am (D.G.add a a)), (D.G.am (D.G.sum [a, a])), hz34, hz37, _, rfl, ?_⟩
    rw [decide_eq_true (congrArg D.G.am (th8 a))]
    refine iteF ?_
    obtain ⟨dx38, fs38, g38, f38⟩ := sc_recv (m := "is_less") hs (by decide +kernel)
    refine ⟨_, rfl, p, _, _, rfl, g38, f38, _, rfl, _, rfl, p, _, _, a, b, rfl, hs, ha, hb, (D.G.ok_mono 140 3000 _ (by decide) oa), (D.G.ok_mono 140 3000 _ (by decide) ob), fun H39 s39 => ?_⟩
    replace hs := hs.mono s39
    replace ha := ha.mono s39
    replace hb := hb.mono s39
    replace hc := hc.mono s39
    replace s0 := s0.trans s39
    obtain ⟨dx40, fs40, g40, f40⟩ := sc_recv (m := "is_less") hs (by decide +kernel)
    refine ⟨_, rfl, _, rfl, (D.G.am a), (D.G.am b), ha, hb, _, rfl, p, _, _, rfl, g40, f40, _, rfl, _, rfl, p, _, _, b, a, rfl, hs, hb, ha, (D.G.ok_mono 140 3000 _ (by decide) ob), (D.G.ok_mono 140 3000 _ (by decide) oa), fun H41 s41 => ?_⟩
    replace hs := hs.mono s41
    replace ha := ha.mono s41
    replace hb := hb.mono s41
    replace hc := hc.mono s41
    replace s0 := s0.trans s41
    refine ⟨(by show 3 ≤ sizeLine; decide), fun q42 hq42 => ?_⟩
    have s42 := Same.new (H := H41) (o := (HO.lst [V.bl (D.G.lt a b), V.bl (decide (D.G.am a = D.G.am b)), V.bl (D.G.lt b a)])) hq42
    replace hs := hs.mono s42
    replace ha := ha.mono s42
    replace hb := hb.mono s42
    replace hc := hc.mono s42
    replace s0 := s0.trans s42
    refine ⟨.inl ⟨rfl, _, SqL.of upd_same⟩, q42, _, _, rfl, rfl, SqL.of upd_same, rfl, rfl, rfl, _, rfl, ?_⟩
    rw [th_cnt a b, show decide (V.int ((1 : Nat) : Int) = V.int 1) = true by decide +kernel]
    refine iteF ?_
    obtain ⟨dx43, fs43, g43, f43⟩ := sc_recv (m := "is_less") hs (by decide +kernel)
    refine ⟨_, rfl, p, _, _, rfl, g43, f43, _, rfl, _, rfl, p, _, _, a, b, rfl, hs, ha, hb, (D.G.ok_mono 140 3000 _ (by decide) oa), (D.G.ok_mono 140 3000 _ (by decide) ob), fun H44 s44 => ?_⟩
    replace hs := hs.mono s44
    replace ha := ha.mono s44
    replace hb := hb.mono s44
    replace hc := hc.mono s44
    replace s0 := s0.trans s44
    obtain ⟨dx45, fs45, g45, f45⟩ := sc_recv (m := "is_less") hs (by decide +kernel)
    obtain ⟨dx46, fs46, g46, f46⟩ := sc_recv (m := "plus") hs (by decide +kernel)
    refine ⟨_, rfl, p, _, _, rfl, g45, f45, _, rfl, p, _, _, rfl, g46, f46, _, rfl, _, rfl, p, _, [a, c], 140, rfl, hs, (.cons ha (.cons hc .nil)), (ok_cons (D.G.ok_mono 140 140 _ (by decide) oa) (ok_cons (D.G.ok_mono 140 140 _ (by decide) oc) ok_nil)), (by show 2 * 140 + 1 ≤ 8000; decide), (by show 2 ≤ 5; decide), fun z47 H47 s47 hz47 => ?_⟩
    replace hs := hs.mono s47
    replace ha := ha.mono s47
    replace hb := hb.mono s47
    replace hc := hc.mono s47
    replace s0 := s0.trans s47
    obtain ⟨dx48, fs48, g48, f48⟩ := sc_recv (m := "plus") hs (by decide +kernel)
    refine ⟨_, rfl, p, _, _, rfl, g48, f48, _, rfl, _, rfl, p, _, [b, c], 140, rfl, hs, (.cons hb (.cons hc .nil)), (ok_cons (D.G.ok_mono 140 140 _ (by decide) ob) (ok_cons (D.G.ok_mono 140 140 _ (by decide) oc) ok_nil)), (by show 2 * 140 + 1 ≤ 8000; decide), (by show 2 ≤ 5; decide), fun z49 H49 s49 hz49 => ?_⟩
    replace hs := hs.mono s49
    replace ha := ha.mono s49
    replace hb := hb.mono s49
    replace hc := hc.mono s49
    replace hz47 := hz47.mono s49
    replace s0 := s0.trans s49
    refine ⟨p, _, _, (D.G.sum [a, c]), (D.G.sum [b, c]), rfl, hs, hz47, hz49, (D.G.ok_mono 281 3000 _ (by decide) (D.G.ok_mono _ 281 _ (by show 2 * 140 + 1 ≤ 281; decide) (Grp.ok_sum (ok_cons (D.G.ok_mono 140 140 _ (by decide) oa) (ok_cons (D.G.ok_mono 140 140 _ (by decide) oc) ok_nil))))), (D.G.ok_mono 281 3000 _ (by decide) (D.G.ok_mono _ 281 _ (by show 2 * 140 + 1 ≤ 281; decide) (Grp.ok_sum (ok_cons (D.G.ok_mono 140 140 _ (by decide) ob) (ok_cons (D.G.ok_mono 140 140 _ (by decide) oc) ok_nil))))), fun H50 s50 => ?_⟩
    replace hs := hs.mono s50
    replace ha := ha.mono s50
    replace hb := hb.mono s50
    replace hc := hc.mono s50
    replace hz47 := hz47.mono s50
    replace hz49 := hz49.mono s50
    replace s0 := s0.trans s50
    refine ⟨rfl, _, rfl, ?_⟩
    rw [decide_eq_true (congrArg V.bl (th_add a b c))]
    refine iteF ?_
    obtain ⟨dx51, fs51, g51, f51⟩ := sc_recv (m := "is_less") hs (by decide +kernel)
    refine ⟨_, rfl, p, _, _, rfl, g51, f51, _, rfl, _, rfl, p, _, _, a, b, rfl, hs, ha, hb, (D.G.ok_mono 140 3000 _ (by decide) oa), (D.G.ok_mono 140 3000 _ (by decide) ob), fun H52 s52 => ?_⟩
    replace hs := hs.mono s52
    replace ha := ha.mono s52
    replace hb := hb.mono s52
    replace hc := hc.mono s52
    replace s0 := s0.trans s52
    obtain ⟨dx53, fs53, g53, f53⟩ := sc_recv (m := "is_less") hs (by decide +kernel)
    obtain ⟨dx54, fs54, g54, f54⟩ := sc_recv (m := "negative") hs (by decide +kernel)
    refine ⟨_, rfl, p, _, _, rfl, g53, f53, _, rfl, p, _, _, rfl, g54, f54, _, rfl, p, _, b, rfl, hs, hb, fun z55 H55 s55 hz55 => ?_⟩
    replace hs := hs.mono s55
    replace ha := ha.mono s55
    replace hb := hb.mono s55
    replace hc := hc.mono s55
    replace s0 := s0.trans s55
    obtain ⟨dx56, fs56, g56, f56⟩ := sc_recv (m := "negative") hs (by decide +kernel)
    refine ⟨_, rfl, p, _, _, rfl, g56, f56, _, rfl, p, _, a, rfl, hs, ha, fun z57 H57 s57 hz57 => ?_⟩
    replace hs := hs.mono s57
    replace ha := ha.mono s57
    replace hb := hb.mono s57
    replace hc := hc.mono s57
    replace hz55 := hz55.mono s57
    replace s0 := s0.trans s57
    refine ⟨p, _, _, (D.G.neg b), (D.G.neg a), rfl, hs, hz55, hz57, (D.G.ok_mono 140 3000 _ (by decide) (D.G.ok_neg _ _ ob)), (D.G.ok_mono 140 3000 _ (by decide) (D.G.ok_neg _ _ oa)), fun H58 s58 => ?_⟩
    replace hs := hs.mono s58
    replace ha := ha.mono s58
    replace hb := hb.mono s58
    replace hc := hc.mono s58
    replace hz55 := hz55.mono s58
    replace hz57 := hz57.mono s58
    replace s0 := s0.trans s58
    refine ⟨rfl, _, rfl, ?_⟩
    rw [decide_eq_true (congrArg V.bl ((Grp.lt_neg a b).symm))]
    refine iteF ?_
    refine ⟨fun σ' H' => σ' = [some (.ref p), some va, some vb, some vc, none] ∧ Same H H', ?_, ?_⟩
    · obtain ⟨dx159, fs159, g159, f159⟩ := sc_recv (m := "is_less") hs (by decide +kernel)
      refine ⟨_, rfl, p, _, _, rfl, g159, f159, _, rfl, _, rfl, p, _, _, a, b, rfl, hs, ha, hb, (D.G.ok_mono 140 3000 _ (by decide) oa), (D.G.ok_mono 140 3000 _ (by decide) ob), fun H160 s160 => ?_⟩
      replace hs := hs.mono s160
      replace ha := ha.mono s160
      replace hb := hb.mono s160
      replace hc := hc.mono s160
      replace s0 := s0.trans s160
      refine ⟨_, rfl, ?_⟩
      cases e1 : D.G.lt a b with
      | false => exact iteF (iteF ⟨rfl, s0⟩)
      | true =>
        refine iteT ?_
        obtain ⟨dx161, fs161, g161, f161⟩ := sc_recv (m := "is_less") hs (by decide +kernel)
        refine ⟨_, rfl, p, _, _, rfl, g161, f161, _, rfl, _, rfl, p, _, _, b, c, rfl, hs, hb, hc, (D.G.ok_mono 140 3000 _ (by decide) ob), (D.G.ok_mono 140 3000 _ (by decide) oc), fun H162 s162 => ?_⟩
        replace hs := hs.mono s162
        replace ha := ha.mono s162
        replace hb := hb.mono s162
        replace hc := hc.mono s162
        replace s0 := s0.trans s162
        refine ⟨_, rfl, ?_⟩
        cases e2 : D.G.lt b c with
        | false => exact iteF (iteF ⟨rfl, s0⟩)
        | true =>
          refine iteT ?_
          obtain ⟨dx163, fs163, g163, f163⟩ := sc_recv (m := "is_less") hs (by decide +kernel)
          refine ⟨_, rfl, p, _, _, rfl, g163, f163, _, rfl, _, rfl, p, _, _, a, c, rfl, hs, ha, hc, (D.G.ok_mono 140 3000 _ (by decide) oa), (D.G.ok_mono 140 3000 _ (by decide) oc), fun H164 s164 => ?_⟩
          replace hs := hs.mono s164
          replace ha := ha.mono s164
          replace hb := hb.mono s164
          replace hc := hc.mono s164
          replace s0 := s0.trans s164
          refine ⟨_, rfl, ?_⟩
          rw [D.G.trans a b c e1 e2]
          exact iteF ⟨rfl, s0⟩
    · rintro σ' HM ⟨rfl, s0⟩
      replace hs := hs0.mono s0
      replace ha := ha0.mono s0
      replace hb := hb0.mono s0
      replace hc := hc0.mono s0
      obtain ⟨dx265, fs265, g265, f265⟩ := sc_recv (m := "sign") hs (by decide +kernel)
      obtain ⟨dx266, fs266, g266, f266⟩ := sc_recv (m := "minus") hs (by decide +kernel)
      refine ⟨_, rfl, p, _, _, rfl, g265, f265, _, rfl, p, _, _, rfl, g266, f266, _, rfl, _, rfl, p, _, _, a, b, rfl, hs, ha, hb, (D.G.ok_mono 140 3000 _ (by decide) oa), (D.G.ok_mono 140 3000 _ (by decide) ob), fun z267 H267 s267 hz267 => ?_⟩
      replace hs := hs.mono s267
      replace ha := ha.mono s267
      replace hb := hb.mono s267
      replace hc := hc.mono s267
      replace s0 := s0.trans s267
      refine ⟨p, _, (D.G.add a (D.G.neg b)), rfl, hs, hz267, (D.G.ok_mono 280 3000 _ (by decide) (D.G.ok_add _ _ _ _ oa (D.G.ok_neg _ _ ob))), fun H268 s268 => ?_⟩
      replace hs := hs.mono s268
      replace ha := ha.mono s268
      replace hb := hb.mono s268
      replace hc := hc.mono s268
      replace hz267 := hz267.mono s268
      replace s0 := s0.trans s268
      obtain ⟨dx269, fs269, g269, f269⟩ := sc_recv (m := "is_less") hs (by decide +kernel)
      refine ⟨_, rfl, p, _, _, rfl, g269, f269, _, rfl, _, rfl, p, _, _, b, a, rfl, hs, hb, ha, (D.G.ok_mono 140 3000 _ (by decide) ob), (D.G.ok_mono 140 3000 _ (by decide) oa), fun H270 s270 => ?_⟩
      replace hs := hs.mono s270
      replace ha := ha.mono s270
      replace hb := hb.mono s270
      replace hc := hc.mono s270
      replace s0 := s0.trans s270
      refine .inr ⟨_, rfl, ?_⟩
      obtain ⟨dx271, fs271, g271, f271⟩ := sc_recv (m := "is_less") hs (by decide +kernel)
      refine ⟨_, rfl, p, _, _, rfl, g271, f271, _, rfl, _, rfl, p, _, _, a, b, rfl, hs, ha, hb, (D.G.ok_mono 140 3000 _ (by decide) oa), (D.G.ok_mono 140 3000 _ (by decide) ob), fun H272 s272 => ?_⟩
      replace hs := hs.mono s272
      replace ha := ha.mono s272
      replace hb := hb.mono s272
      replace hc := hc.mono s272
      replace s0 := s0.trans s272
      refine .inr ⟨_, rfl, ?_⟩
      refine ⟨_, _, rfl, rfl, rfl, _, rfl, ?_⟩
      rw [decide_eq_true (congrArg V.int (th_sg a b))]
      refine iteF ?_
      refine ⟨_, rfl, _, rfl, _, rfl, (by show 3 ≤ sizeLine; decide), fun t273 ht273 => ?_⟩
      have s273 := Same.new (H := H272) (o := (HO.tup [va, vb, vc])) ht273
      replace hs := hs.mono s273
      replace ha := ha.mono s273
      replace hb := hb.mono s273
      replace hc := hc.mono s273
      replace s0 := s0.trans s273
      have hu273 : (upd H272 t273 (HO.tup [va, vb, vc])) t273 = some (HO.tup [va, vb, vc]) := upd_same
      have hthree := hu273
      obtain ⟨dx274, fs274, g274, f274⟩ := sc_recv (m := "plus_all") hs (by decide +kernel)
      refine ⟨_, rfl, p, _, _, rfl, g274, f274, _, rfl, p, t273, _, [a, b, c], 140, rfl, hs, hthree, (.cons ha (.cons hb (.cons hc .nil))), (ok_cons (D.G.ok_mono 140 140 _ (by decide) oa) (ok_cons (D.G.ok_mono 140 140 _ (by decide) ob) (ok_cons (D.G.ok_mono 140 140 _ (by decide) oc) ok_nil))), (by show 3 * 140 + 1 ≤ 8000; decide), (by show 3 ≤ 100; decide), fun z275 H275 s275 hz275 => ?_⟩
      replace hs := hs.mono s275
      replace ha := ha.mono s275
      replace hb := hb.mono s275
      replace hc := hc.mono s275
      replace hu273 := s275 _ _ hu273
      replace hthree := s275 _ _ hthree
      replace s0 := s0.trans s275
      obtain ⟨dx276, fs276, g276, f276⟩ := sc_recv (m := "plus") hs (by decide +kernel)
      refine ⟨_, rfl, p, _, _, rfl, g276, p, _, (D.G.sum [a, b, c]), rfl, hs, hz275, fun H276 s276 => ⟨true, rfl, _, rfl, ?_⟩⟩
      replace hs := hs.mono s276
      replace ha := ha.mono s276
      replace hb := hb.mono s276
      replace hc := hc.mono s276
      replace hz275 := hz275.mono s276
      replace hu273 := s276 _ _ hu273
      replace hthree := s276 _ _ hthree
      replace s0 := s0.trans s276
      refine iteF ?_
      obtain ⟨dx277, fs277, g277, f277⟩ := sc_recv (m := "greatest") hs (by decide +kernel)
      refine ⟨_, rfl, p, _, _, rfl, g277, f277, _, rfl, _, rfl, _, rfl, p, _, [a, b, c], rfl, hs, (.cons ha (.cons hb (.cons hc .nil))), (ok_cons (D.G.ok_mono 140 3000 _ (by decide) oa) (ok_cons (D.G.ok_mono 140 3000 _ (by decide) ob) (ok_cons (D.G.ok_mono 140 3000 _ (by decide) oc) ok_nil))), (by show 0 < 3; decide), (by show 3 ≤ 5; decide), fun z278 H278 s278 hz278 => ?_⟩
      replace hs := hs.mono s278
      replace ha := ha.mono s278
      replace hb := hb.mono s278
      replace hc := hc.mono s278
      replace hu273 := s278 _ _ hu273
      replace hthree := s278 _ _ hthree
      replace s0 := s0.trans s278
      obtain ⟨dx279, fs279, g279, f279⟩ := sc_recv (m := "ranked") hs (by decide +kernel)
      refine ⟨_, rfl, _, rfl, p, _, _, rfl, g279, f279, _, rfl, p, t273, _, [a, b, c], rfl, hs, hthree, (.cons ha (.cons hb (.cons hc .nil))), (ok_cons (D.G.ok_mono 140 3000 _ (by decide) oa) (ok_cons (D.G.ok_mono 140 3000 _ (by decide) ob) (ok_cons (D.G.ok_mono 140 3000 _ (by decide) oc) ok_nil))), (by show 0 < 3; decide), (by show 3 ≤ 100; decide), fun q H9 s9 hq => ?_⟩
      replace hs := hs.mono s9
      replace ha := ha.mono s9
      replace hb := hb.mono s9
      replace hc := hc.mono s9
      replace hz278 := hz278.mono s9
      replace hu273 := s9 _ _ hu273
      replace hthree := s9 _ _ hthree
      replace s0 := s0.trans s9
      obtain ⟨r0, rin⟩ := rank_ok (f := fI D.G [a, b, c]) (n := 3) (by decide)
      have htop : top1 D.G [a, b, c] = [a, b, c].getD ((rank (fI D.G [a, b, c]) 3).headD 0).toNat D.G.zero := rfl
      replace hq : H9 q = some (.tup ((rank (fI D.G [a, b, c]) 3).map V.int)) := hq
      cases er : rank (fI D.G [a, b, c]) 3 with
      | nil => exact absurd er r0
      | cons x rr =>
        rw [er] at rin hq htop
        obtain ⟨hx0, hx1⟩ := rin x (List.mem_cons_self ..)
        obtain ⟨v, ev, av⟩ := ams_ix (G := D.G) (l := [a, b, c]) (.cons ha (.cons hb (.cons hc .nil))) hx0 hx1
        refine ⟨q, _, _, _, rfl, rfl, SqT.of hq, atI_nat rfl, t273, _, _, _, rfl, rfl, SqT.of hthree, ev, _, _, hz278, av, ?_⟩
        replace htop : top1 D.G [a, b, c] = [a, b, c].getD x.toNat D.G.zero := htop
        rw [decide_eq_true (congrArg D.G.am htop)]
        exact k H9 s0
end
end Mo

set_option Elab.async false
set_option linter.all false
set_option maxRecDepth 100000
set_option maxHeartbeats 4000000
namespace Mo
open PySem PySem.Spec PyProof.Rows L2
/-! ### _law_loads_right -/
theorem sg_pos {G : Grp} {x : G.α} (h : G.lt G.zero x = true) : sgI G x = 1 := by
  unfold sgI
  rw [if_neg (fun e => th_ne h e.symm), Grp.asym _ _ h]
  rfl
theorem cut_by (K : PySem.W.Frag) {H : Hp} {t : Addr} {xs : List V} {j : Nat} {i : Int} {Q : VK} (hi : i = (j : Int)) (ht : H t = some (.tup xs)) (hj : j ≤ xs.length) (k : ∀ q H', Same H H' → H' q = some (.tup (xs.take j)) → Q (.ref q) H') : rSlA K (.ref t) none (some i) H Q := by
  subst hi
  refine ⟨t, xs, rfl, SqT.of ht, fun ⟨_, e⟩ => ?_, fun _ p hp => k p _ (Same.new hp) ?_⟩
  · rw [HT.sIx_nat, Nat.min_eq_left hj] at e
    exact k t H (Same.refl _) (by rw [e, List.take_length]; exact ht)
  · rw [upd_same]
    unfold cutV
    rw [HT.sIx_nat, HT.sIx_none, Nat.min_eq_left hj, List.drop_zero, Nat.sub_zero]
theorem Paired.rev {α β : Type} {F : α → β → Prop} : ∀ {xs : List α} {ys : List β}, Paired F xs ys → Paired F xs.reverse ys.reverse
  | _, _, .nil => .nil
  | _, _, .cons h r => by
    rw [List.reverse_cons, List.reverse_cons]
    exact (Paired.rev r).snoc h
def spLoads (D : Kd) : Sp := fun vs H Q _ => ∃ p t xs l, vs = [.ref p, .ref t] ∧ ScAt D H p ∧ H t = some (.tup xs) ∧ Ams D.G H xs l ∧ (∀ x ∈ l, wGood D x) ∧ l.length ≤ 6 ∧ ∀ H', Same H H' → Q (.bl true) H'
section
variable {P : Program} {w : World} {K : PySem.W.Frag} {mg : Str → Option Value} {base : Heap} {C0 C1 C2 C3 : Addr} {D : Kd}
theorem sc36 : FnScope ["_law_meter", "_law_loads", "_law_load", "_law_many"] ["_law_meter", "_law_loads"] (defScope (top 36)) := ⟨rfl, rfl, rfl, by decide +kernel, rfl, by decide +kernel, by decide +kernel⟩
theorem g_loads (T : Txt K mg C0 C1 C2 C3) (B : Abs P w K mg base C0 D) : Gf P w K mg base 10 "_law_loads_right" (spLoads D) := by
  obtain ⟨nn, q0, q1, q2, q3, q4, q5, ct⟩ := B.ct
  refine gf_of T.d_law_loads_right sc36 (fun vs H Q E h => ?_) (fun _ _ _ _ _ _ us hl => match us, hl with | [_, _], _ => rfl) fun f cdv A outer s H vs Q E hr h => ?_
  · obtain ⟨p, t, xs, l, rfl, _⟩ := h
    rfl
  · obtain ⟨p, t, xs, l, rfl, hs, ht, hl, hw, h6, k⟩ := h
    have hll : xs.length = l.length := hl.length
    refine ⟨_, pss_cons (ps_if (pt_cmpR (op_neD hr.units)
          (pe_lc (own := [("_law_load", 2)]) (g := gName 2) (tt := tOr (tTest (tOp rNe (tM D.C "sign" (spSign D) (tVar 0) (tCons (tVar 2) tNil)) (tC (.int 1)))) (tTest (tOp (rNotInO D.C (spForm D)) (tVar 2) (tVar 0)))) (te := tVar 2) rfl sc36.nd (pi_tup (pv 1))
            (blkOk_by (own := [("_law_load", 2)]) (N := ["_law_meter", "_law_loads", "_law_load", "_law_many"]) (sc := defScope (top 36)) (by decide +kernel))
            (fun _ _ _ _ _ => pg_name (i := 2) sc36.nd rfl (Or.inl rfl)) (fun s1 H1 c1 cl1 fp1 => pts_one ?_) (fun _ _ _ _ _ => pv 2)) (pe_lst pa_nil) (nomark _)) (pss_one (ps_ret pe_bl)) pss_nil)
      (pss_cons (ps_for PassesOwn.never rfl (pi_range1 rfl T.frange (pa_cons (pe_callB call_len_seq rfl T.flen PySem.boot_len (pa_cons (pv 1) pa_nil)) pa_nil)) (pg_name (i := 3) sc36.nd rfl (Or.inl rfl))
        (pss_one (ps_if (pt_not (pt_val (pe_m (m_less T B) ct.cl hr (pv 0) (pa_cons (pe_m (m_plusA T B) ct.cl hr (pv 0) (pa_cons (pe_slice sl_tupA (pv 1) po_none (po_some (pv 3))) pa_nil))
          (pa_cons (pe_m (m_plusA T B) ct.cl hr (pv 0) (pa_cons (pe_slice sl_tupA (pv 1) po_none (po_some (pe_op op_add (pv 3) pe_int))) pa_nil)) pa_nil))))) (pss_one (ps_ret pe_bl)) pss_nil)))
      (pss_one (ps_ret (pe_cmpR (op_eqA hr) (pe_m (m_minus T B) ct.cl hr (pv 0) (pa_cons (pe_m (m_plusA T B) ct.cl hr (pv 0) (pa_cons (pv 1) pa_nil)) (pa_cons (pe_m (m_plusA T B) ct.cl hr (pv 0) (pa_cons (pe_revT (pv 1)) pa_nil)) pa_nil))) (pe_z ct hr (pv 0)) (nomark _))))), ?_⟩
    · exact PW.pt (pw_or (pt_cmpR op_ne (pe_m (m_sign T B) ct.cl hr (pv 0) (pa_cons (pv 2) pa_nil)) pe_int (nomark _)) (pw_or1 (pt_cmpR (op_notInO (m_cont B) hr) (pv 2) (pv 0) rfl)))
    -- no load that is not above zero
    refine ⟨_, rfl, t, rfl, ⟨_, SqT.of ht⟩, fun R hR => lc_tup (K := K) (a := t) (xs := xs) (fun i H2 => Same H H2 ∧ H2 R = some (.lst [])) ⟨Same.new hR, upd_same⟩
      (fun i H2 _ ⟨s2, _⟩ => SqT.of (s2 _ _ ht)) ?_ ?_⟩
    · rintro i v H2 hv ⟨s2, hR2⟩
      obtain ⟨x, hx, hxv⟩ := Paired.at_ (Ams.mono s2 hl) hv
      obtain ⟨w1, w2⟩ := hw x (List.mem_of_getElem? hx)
      obtain ⟨dx, fs, g1, g2⟩ := sc_recv (m := "sign") (hs.mono s2) (by decide +kernel)
      refine ⟨rfl, _, rfl, p, dx, fs, rfl, g1, g2, _, rfl, p, v, x, rfl, hs.mono s2, hxv, D.G.ok_mono _ _ _ (by decide) w1, fun H3 s3 => ?_⟩
      rw [sg_pos w2]
      refine ⟨rfl, _, rfl, ?_⟩
      rw [show decide (V.int 1 = V.int 1) = true by decide +kernel]
      obtain ⟨dx, fs, g1, g2⟩ := sc_recv (m := "sign") (hs.mono (s2.trans s3)) (by decide +kernel)
      refine iteF ⟨_, rfl, _, rfl, p, dx, fs, rfl, g1, p, v, x, rfl, hs.mono (s2.trans s3), hxv.mono s3, fun H4 s4 => ⟨true, rfl, _, rfl, ?_⟩⟩
      exact iteF ⟨s2.trans (s3.trans s4), s4 _ _ (s3 _ _ hR2)⟩
    · rintro H2 ⟨s2, hR2⟩
      refine ⟨Nat.zero_le _, fun Z hZ => ⟨.list [], .list [], .lst (SqL.of (Same.new hZ _ _ hR2)) .nil, .lst (SqL.of upd_same) .nil, by decide, by decide, _, rfl, ?_⟩⟩
      rw [show PyData.eqv (.list []) (.list []) = true by decide +kernel]
      have s3 := s2.trans (Same.new (o := .lst []) hZ)
      generalize upd H2 Z (.lst []) = H3 at s3 ⊢
      refine iteF ?_
      -- the running sums
      have hok : ∀ x ∈ l, D.G.ok 140 x := fun x hx => (hw x hx).1
      refine ⟨_, rfl, t, _, rfl, .inr (SqT.of (s3 _ _ ht)), (xs.length : Int), rfl, by omega, by omega, for_range (lo := 0) (n := ((xs.length : Int)).toNat) (fun i σ H' => Same H H' ∧ ∃ v : Option V, σ = [some (.ref p), some (.ref t), none, v]) ⟨s3, none, rfl⟩ ?_ ?_⟩
      · rintro i σ H4 hi ⟨s4, v, rfl⟩
        have hi : i < l.length := by omega
        obtain ⟨x, hx⟩ : ∃ x, l[i]? = some x := ⟨_, List.getElem?_eq_getElem hi⟩
        obtain ⟨w1, w2⟩ := hw x (List.mem_of_getElem? hx)
        obtain ⟨dx, fs, g1, g2⟩ := sc_recv (m := "is_less") (hs.mono s4) (by decide +kernel)
        obtain ⟨dy, fy, g3, g4⟩ := sc_recv (m := "plus_all") (hs.mono s4) (by decide +kernel)
        refine ⟨_, rfl, p, dx, fs, rfl, g1, g2, _, rfl, p, dy, fy, rfl, g3, g4, _, rfl, _, rfl, _, rfl, cut_by K (j := i) (by omega) (s4 _ _ ht) (by omega) fun q H5 s5 hq => ?_⟩
        have s5' := s4.trans s5
        have l1 : (l.take i).length ≤ 6 := by rw [List.length_take]; omega
        refine ⟨p, q, _, l.take i, 140, rfl, hs.mono s5', hq, Paired.takeP i (Ams.mono s5' hl), fun y hy => hok y (List.mem_of_mem_take hy), by omega, by omega, fun z1 H6 s6 hz1 => ?_⟩
        have s6' := s5'.trans s6
        obtain ⟨dy, fy, g3, g4⟩ := sc_recv (m := "plus_all") (hs.mono s6') (by decide +kernel)
        refine ⟨_, rfl, p, dy, fy, rfl, g3, g4, _, rfl, _, rfl, _, _, rfl, rfl, _, rfl, cut_by K (j := i + 1) (by omega) (s6' _ _ ht) (by omega) fun q2 H7 s7 hq2 => ?_⟩
        have s7' := s6'.trans s7
        have l2 : (l.take (i + 1)).length ≤ 6 := by rw [List.length_take]; omega
        refine ⟨p, q2, _, l.take (i + 1), 140, rfl, hs.mono s7', hq2, Paired.takeP (i + 1) (Ams.mono s7' hl), fun y hy => hok y (List.mem_of_mem_take hy), by omega, by omega, fun z2 H8 s8 hz2 => ?_⟩
        have s8' := s7'.trans s8
        have o1 : D.G.ok 3000 (D.G.sum (l.take i)) := D.G.ok_mono _ _ _ (by omega) (Grp.ok_sum (s := 140) fun y hy => hok y (List.mem_of_mem_take hy))
        have o2 : D.G.ok 3000 (D.G.sum (l.take (i + 1))) := D.G.ok_mono _ _ _ (by omega) (Grp.ok_sum (s := 140) fun y hy => hok y (List.mem_of_mem_take hy))
        refine ⟨p, z1, z2, _, _, rfl, hs.mono s8', hz1.mono (s7.trans s8), hz2, o1, o2, fun H9 s9 => ⟨_, rfl, ?_⟩⟩
        rw [take_snoc hx, Grp.sum_app, Grp.sum_one, Grp.add_lt _ _ w2]
        exact iteF ⟨s8'.trans s9, _, rfl⟩
      · rintro σ H4 ⟨s4, v, rfl⟩
        obtain ⟨dx, fs, g1, g2⟩ := sc_recv (m := "minus") (hs.mono s4) (by decide +kernel)
        obtain ⟨dy, fy, g3, g4⟩ := sc_recv (m := "plus_all") (hs.mono s4) (by decide +kernel)
        refine ⟨_, rfl, p, dx, fs, rfl, g1, g2, _, rfl, p, dy, fy, rfl, g3, g4, _, rfl, p, t, _, l, 140, rfl, hs.mono s4, s4 _ _ ht, Ams.mono s4 hl, hok, by omega, by omega, fun z1 H5 s5 hz1 => ?_⟩
        have s5' := s4.trans s5
        obtain ⟨dy, fy, g3, g4⟩ := sc_recv (m := "plus_all") (hs.mono s5') (by decide +kernel)
        refine ⟨_, rfl, p, dy, fy, rfl, g3, g4, _, rfl, t, _, rfl, SqT.of (s5' _ _ ht), fun q hq => ?_⟩
        have s6' := s5'.trans (Same.new (o := .tup xs.reverse) hq)
        refine ⟨p, q, _, l.reverse, 140, rfl, hs.mono s6', upd_same, Paired.rev (Ams.mono s6' hl), fun y hy => hok y (List.mem_reverse.mp hy), ?_, ?_, fun z2 H7 s7 hz2 => ?_⟩
        · rw [List.length_reverse]
          omega
        · rw [List.length_reverse]
          omega
        · have s7' := s6'.trans s7
          have o1 : D.G.ok 3000 (D.G.sum l) := D.G.ok_mono _ _ _ (by omega) (Grp.ok_sum (s := 140) hok)
          rw [Grp.sum_rev] at hz2
          refine ⟨p, z1, z2, _, _, rfl, hs.mono s7', (hz1.mono (Same.new hq)).mono s7, hz2, o1, o1, fun z3 H8 s8 hz3 => ?_⟩
          have s8' := s7'.trans s8
          obtain ⟨dx, fs, g1, g2⟩ := sc_recv (m := "zero") (hs.mono s8') (by decide +kernel)
          refine ⟨_, rfl, p, dx, fs, rfl, g1, p, rfl, hs.mono s8', fun z4 hz4 => ⟨_, _, hz3, hz4, ?_⟩⟩
          rw [D.G.addn, decide_eq_true rfl]
          exact k _ s8'
end
end Mo

set_option Elab.async false
set_option linter.all false
set_option maxHeartbeats 4000000
/-! The mathematics of the chances: over all sets of rows they sum to one, and a set's chance by its loss is the same for all. -/
namespace Mo
open PySem PySem.Spec PyProof.Rows L2
def sets : Nat → List (List Int)
  | 0 => [[]]
  | n + 1 => sets n ++ (sets n).map fun s => s ++ [(n : Int)]
theorem sets_len : ∀ n : Nat, (sets n).length = 2 ^ n
  | 0 => rfl
  | n + 1 => by
    show (sets n ++ (sets n).map fun s => s ++ [(n : Int)]).length = _
    rw [List.length_append, List.length_map, sets_len n, Nat.pow_succ]
    omega
theorem sets_lt : ∀ (n : Nat) (s : List Int), s ∈ sets n → ∀ x ∈ s, 0 ≤ x ∧ x < (n : Int)
  | 0, s, h, x, hx => by
    rw [List.mem_singleton.mp h] at hx
    cases hx
  | n + 1, s, h, x, hx => by
    have h : s ∈ sets n ++ (sets n).map fun s => s ++ [(n : Int)] := h
    rcases List.mem_append.mp h with h | h
    · have := sets_lt n s h x hx
      omega
    · obtain ⟨t, ht, rfl⟩ := List.mem_map.mp h
      rcases List.mem_append.mp hx with z | z
      · have := sets_lt n t ht x z
        omega
      · rw [List.mem_singleton.mp z]
        omega
theorem sets_small : ∀ (n : Nat) (s : List Int), s ∈ sets n → s.length ≤ n
  | 0, s, h => by
    rw [List.mem_singleton.mp h]
    exact Nat.le_refl _
  | n + 1, s, h => by
    have h : s ∈ sets n ++ (sets n).map fun s => s ++ [(n : Int)] := h
    rcases List.mem_append.mp h with h | h
    · have := sets_small n s h
      omega
    · obtain ⟨t, ht, rfl⟩ := List.mem_map.mp h
      have := sets_small n t ht
      rw [List.length_append]
      show t.length + 1 ≤ n + 1
      omega
theorem asc_snoc : ∀ (s : List Int) (y : Int), asc s = true → (∀ x ∈ s, x < y) → asc (s ++ [y]) = true
  | [], y, _, _ => rfl
  | [a], y, _, h => by
    have := h a (List.mem_cons_self ..)
    simp [asc, this]
  | a :: b :: r, y, h, hl => by
    have h : (decide (a < b) && asc (b :: r)) = true := h
    show (decide (a < b) && asc (b :: r ++ [y])) = true
    rw [Bool.and_eq_true] at h ⊢
    exact ⟨h.1, asc_snoc (b :: r) y h.2 fun x hx => hl x (List.mem_cons_of_mem _ hx)⟩
theorem sets_asc : ∀ (n : Nat) (s : List Int), s ∈ sets n → asc s = true
  | 0, s, h => by
    rw [List.mem_singleton.mp h]
    rfl
  | n + 1, s, h => by
    have h : s ∈ sets n ++ (sets n).map fun s => s ++ [(n : Int)] := h
    rcases List.mem_append.mp h with h | h
    · exact sets_asc n s h
    · obtain ⟨t, ht, rfl⟩ := List.mem_map.mp h
      exact asc_snoc t _ (sets_asc n t ht) fun x hx => (sets_lt n t ht x hx).2
/-- what a row brings to a chance: its odds' top if it is kept, else its bottom -/
def facT (w : Option QP) (b : Bool) : Int := match w with
  | some q => if b = true then q.1.num else (q.1.den : Int)
  | none => 1
def facB (w : Option QP) : Int := match w with
  | some q => q.1.num + (q.1.den : Int)
  | none => 1
def facN (w : Option QP) : Int := match w with
  | some q => q.1.num
  | none => 1
def facL (w : Option QP) (b : Bool) : Rat := match w with
  | some q => if b = true then 1 else q.1
  | none => 1
def isIn (i : Nat) (s : List Int) : Bool := decide ((i : Int) ∈ s)
def topN (l : List QP) (s : List Int) : Nat → Int
  | 0 => 1
  | i + 1 => topN l s i * facT l[i]? (isIn i s)
def botN (l : List QP) : Nat → Int
  | 0 => 1
  | i + 1 => botN l i * facB l[i]?
def numN (l : List QP) : Nat → Int
  | 0 => 1
  | i + 1 => numN l i * facN l[i]?
def losN (l : List QP) (s : List Int) : Nat → Rat
  | 0 => 1
  | i + 1 => losN l s i * facL l[i]? (isIn i s)
theorem fac_pos (w : Option QP) (b : Bool) : 0 < facT w b ∧ facT w b ≤ facB w ∧ 0 < facN w := by
  cases w with
  | none => exact ⟨(by show (0 : Int) < 1; decide), (by show (1 : Int) ≤ 1; decide), (by show (0 : Int) < 1; decide)⟩
  | some q =>
    have h1 := num_pos_of q.2
    have h2 := q.1.den_pos
    show 0 < (if b = true then q.1.num else (q.1.den : Int)) ∧ (if b = true then q.1.num else (q.1.den : Int)) ≤ q.1.num + (q.1.den : Int) ∧ 0 < q.1.num
    cases b with
    | true =>
      rw [if_pos rfl]
      omega
    | false =>
      rw [if_neg Bool.false_ne_true]
      omega
theorem top_pos (l : List QP) (s : List Int) : ∀ i, 0 < topN l s i ∧ topN l s i ≤ botN l i
  | 0 => ⟨(by show (0 : Int) < 1; decide), (by show (1 : Int) ≤ 1; decide)⟩
  | i + 1 => by
    obtain ⟨h1, h2⟩ := top_pos l s i
    obtain ⟨f1, f2, _⟩ := fac_pos l[i]? (isIn i s)
    refine ⟨Int.mul_pos h1 f1, ?_⟩
    exact Int.mul_le_mul h2 f2 (by omega) (by omega)
theorem bot_pos (l : List QP) (i : Nat) : 0 < botN l i := by
  obtain ⟨h1, h2⟩ := top_pos l [] i
  omega
theorem num_pos (l : List QP) : ∀ i, 0 < numN l i
  | 0 => (by show (0 : Int) < 1; decide)
  | i + 1 => Int.mul_pos (num_pos l i) (fac_pos l[i]? true).2.2
theorem bot_small {l : List QP} (h : ∀ w ∈ l, isW w) : ∀ i, (botN l i).natAbs ≤ (2 ^ 21) ^ i
  | 0 => (by show (1 : Int).natAbs ≤ 1; decide)
  | i + 1 => by
    have ih := bot_small h i
    show (botN l i * facB l[i]?).natAbs ≤ _
    rw [Int.natAbs_mul, Nat.pow_succ]
    refine Nat.mul_le_mul ih ?_
    cases e : l[i]? with
    | none => decide
    | some q =>
      obtain ⟨h1, h2⟩ := h q (List.mem_of_getElem? e)
      show (q.1.num + (q.1.den : Int)).natAbs ≤ 2 ^ 21
      have e2 : (2 : Nat) ^ 21 = 2097152 := by decide
      rw [e2]
      omega
theorem isIn_snoc {i n : Nat} (s : List Int) (h : i ≠ n) : isIn i (s ++ [(n : Int)]) = isIn i s := by
  unfold isIn
  by_cases e : (i : Int) ∈ s
  · rw [decide_eq_true e, decide_eq_true (List.mem_append.mpr (.inl e))]
  · rw [decide_eq_false e, decide_eq_false]
    intro z
    rcases List.mem_append.mp z with z | z
    · exact e z
    · have := List.mem_singleton.mp z
      omega
theorem top_snoc (l : List QP) (s : List Int) (n : Nat) : ∀ i, i ≤ n → topN l (s ++ [(n : Int)]) i = topN l s i
  | 0, _ => rfl
  | i + 1, h => by
    show topN l (s ++ [(n : Int)]) i * facT l[i]? (isIn i (s ++ [(n : Int)])) = topN l s i * facT l[i]? (isIn i s)
    rw [top_snoc l s n i (by omega), isIn_snoc s (by omega)]
theorem top_sum (l : List QP) : ∀ n, n ≤ l.length → ((sets n).map fun s => topN l s n).sum = botN l n
  | 0, _ => (by show ([1] : List Int).sum = 1; decide)
  | n + 1, h => by
    have ih := top_sum l n (by omega)
    obtain ⟨q, hq⟩ : ∃ q, l[n]? = some q := ⟨_, List.getElem?_eq_getElem (by omega)⟩
    show ((sets n ++ (sets n).map fun s => s ++ [(n : Int)]).map fun s => topN l s (n + 1)).sum = botN l n * facB l[n]?
    rw [List.map_append, List.sum_append, List.map_map, hq]
    have e1 : (sets n).map (fun s => topN l s (n + 1)) = (sets n).map fun s => topN l s n * (q.1.den : Int) := by
      refine List.map_congr_left fun s hs => ?_
      show topN l s n * facT l[n]? (isIn n s) = _
      have : isIn n s = false := decide_eq_false fun z => by
        have := (sets_lt n s hs _ z).2
        omega
      rw [hq, this]
      rfl
    have e2 : (sets n).map ((fun s => topN l s (n + 1)) ∘ fun s => s ++ [(n : Int)]) = (sets n).map fun s => topN l s n * q.1.num := by
      refine List.map_congr_left fun s hs => ?_
      show topN l (s ++ [(n : Int)]) n * facT l[n]? (isIn n (s ++ [(n : Int)])) = _
      have : isIn n (s ++ [(n : Int)]) = true := decide_eq_true (List.mem_append.mpr (.inr (List.mem_singleton.mpr rfl)))
      rw [hq, this, top_snoc l s n n (Nat.le_refl _)]
      rfl
    have mulsum : ∀ (c : Int) (xs : List (List Int)), (xs.map fun s => topN l s n * c).sum = (xs.map fun s => topN l s n).sum * c := fun c xs => by
      induction xs with
      | nil => simp
      | cons x r ih => simp only [List.map_cons, List.sum_cons, ih, Int.add_mul]
    rw [e1, e2, mulsum, mulsum, ih]
    show _ = botN l n * (q.1.num + (q.1.den : Int))
    rw [Int.mul_add, Int.add_comm]
/-- the chance of a set of rows -/
def chQ (l : List QP) (s : List Int) : Rat := Rat.divInt (topN l s l.length) (botN l l.length)
theorem ch_pos (l : List QP) (s : List Int) : 0 < chQ l s := qd_pos (top_pos l s _).1 (bot_pos l _)
theorem ch_ok {l : List QP} (s : List Int) (h : ∀ w ∈ l, isW w) (h6 : l.length ≤ 6) : (topN l s l.length).natAbs < 2 ^ 127 ∧ (botN l l.length).natAbs < 2 ^ 127 := by
  have h1 := bot_small h l.length
  have h2 : (2 ^ 21) ^ l.length ≤ (2 ^ 21) ^ 6 := Nat.pow_le_pow_right (by decide) h6
  have h3 : (2 ^ 21) ^ 6 < 2 ^ 127 := by decide
  obtain ⟨h4, h5⟩ := top_pos l s l.length
  have h6 : (topN l s l.length).natAbs ≤ (botN l l.length).natAbs := by omega
  have h7 : (botN l l.length).natAbs < 2 ^ 127 := Nat.lt_of_le_of_lt (Nat.le_trans h1 h2) h3
  exact ⟨Nat.lt_of_le_of_lt h6 h7, h7⟩
theorem top_los (l : List QP) (s : List Int) : ∀ i, (topN l s i : Rat) * losN l s i = (numN l i : Rat)
  | 0 => by
    show ((1 : Int) : Rat) * 1 = ((1 : Int) : Rat)
    rw [Rat.mul_one]
  | i + 1 => by
    have ih := top_los l s i
    have hf : (facT l[i]? (isIn i s) : Rat) * facL l[i]? (isIn i s) = (facN l[i]? : Rat) := by
      cases l[i]? with
      | none =>
        show ((1 : Int) : Rat) * 1 = ((1 : Int) : Rat)
        rw [Rat.mul_one]
      | some q =>
        cases isIn i s with
        | true =>
          show ((q.1.num : Int) : Rat) * 1 = ((q.1.num : Int) : Rat)
          rw [Rat.mul_one]
        | false =>
          show (((q.1.den : Int) : Int) : Rat) * q.1 = ((q.1.num : Int) : Rat)
          have hd : (((q.1.den : Int) : Int) : Rat) ≠ 0 := fun z => by
            have := q.1.den_pos
            have z2 : ((q.1.den : Int) : Int) = 0 := by exact_mod_cast z
            omega
          have := Rat.div_mul_cancel (a := ((q.1.num : Int) : Rat)) hd
          rw [← Rat.divInt_eq_div, qd_self, Rat.mul_comm] at this
          exact this
    show ((topN l s i * facT l[i]? (isIn i s) : Int) : Rat) * (losN l s i * facL l[i]? (isIn i s)) = ((numN l i * facN l[i]? : Int) : Rat)
    rw [Rat.intCast_mul, Rat.intCast_mul, ← ih, ← hf]
    grind
theorem los_pos (l : List QP) (s : List Int) : ∀ i, 0 < losN l s i
  | 0 => by
    show (0 : Rat) < 1
    decide
  | i + 1 => by
    refine Rat.mul_pos (los_pos l s i) ?_
    cases l[i]? with
    | none =>
      show (0 : Rat) < 1
      decide
    | some q =>
      cases isIn i s with
      | true =>
        show (0 : Rat) < 1
        decide
      | false => exact q.2
theorem mul_rc {a b c : Rat} (hc : c ≠ 0) (h : a * c = b * c) : a = b := by
  rw [← Rat.mul_one a, ← Rat.mul_inv_cancel c hc, ← Rat.mul_assoc, h, Rat.mul_assoc, Rat.mul_inv_cancel c hc, Rat.mul_one]
theorem ch_cmp (l : List QP) (s t : List Int) : losN l s l.length < losN l t l.length ↔ chQ l t < chQ l s := by
  have hb := bot_pos l l.length
  have hB : (0 : Rat) < (botN l l.length : Rat) := by exact_mod_cast hb
  have e : ∀ s, chQ l s * (botN l l.length : Rat) = (topN l s l.length : Rat) := fun s => by
    unfold chQ
    rw [Rat.divInt_eq_div]
    exact Rat.div_mul_cancel (Rat.ne_of_gt hB)
  have c : ∀ s, chQ l s * losN l s l.length * (botN l l.length : Rat) = (numN l l.length : Rat) := fun s => by
    rw [← top_los l s, ← e s]
    grind
  have hc : chQ l s * losN l s l.length = chQ l t * losN l t l.length := by
    have := (c s).trans (c t).symm
    exact mul_rc (Rat.ne_of_gt hB) this
  have p1 := ch_pos l s
  have p2 := ch_pos l t
  have p3 := los_pos l s l.length
  have p4 := los_pos l t l.length
  constructor
  · intro h
    have := (Rat.mul_lt_mul_left p1).mpr h
    rw [hc] at this
    exact (Rat.mul_lt_mul_right p4).mp this
  · intro h
    have := (Rat.mul_lt_mul_right p4).mpr h
    rw [← hc] at this
    exact (Rat.mul_lt_mul_left p1).mp this
/-- the running total -/
def runT (l : List QP) (ss : List (List Int)) : Rat := (ss.map fun s => chQ l s).sum
end Mo

set_option Elab.async false
set_option linter.all false
set_option maxHeartbeats 4000000
namespace Mo
open PySem PySem.Spec PyProof.Rows L2
def runQ (l : List QP) (ss : List (List Int)) : Rat := ss.foldl (fun a s => a + chQ l s) 0
theorem runQ_snoc {l : List QP} {ss : List (List Int)} {j : Nat} {s : List Int} (h : ss[j]? = some s) : runQ l (ss.take (j + 1)) = runQ l (ss.take j) + chQ l s := by
  unfold runQ
  rw [take_snoc h, List.foldl_append]
  rfl
theorem runQ_mul (l : List QP) : ∀ (ss : List (List Int)) (a : Rat), ss.foldl (fun a s => a + chQ l s) a * (botN l l.length : Rat) = a * (botN l l.length : Rat) + (((ss.map fun s => topN l s l.length).sum : Int) : Rat)
  | [], a => by
    show a * _ = a * _ + ((0 : Int) : Rat)
    rw [show ((0 : Int) : Rat) = 0 from rfl, Rat.add_zero]
  | s :: r, a => by
    have hb := bot_pos l l.length
    have hB : (0 : Rat) < (botN l l.length : Rat) := by exact_mod_cast hb
    have e : chQ l s * (botN l l.length : Rat) = (topN l s l.length : Rat) := by
      unfold chQ
      rw [Rat.divInt_eq_div]
      exact Rat.div_mul_cancel (Rat.ne_of_gt hB)
    rw [List.foldl_cons, runQ_mul l r, List.map_cons, List.sum_cons, Rat.intCast_add, Rat.add_mul, e, Rat.add_assoc]
theorem runQ_all (l : List QP) : runQ l (sets l.length) = 1 := by
  have hb := bot_pos l l.length
  have hB : (0 : Rat) < (botN l l.length : Rat) := by exact_mod_cast hb
  have h := runQ_mul l (sets l.length) 0
  rw [top_sum l l.length (Nat.le_refl _), Rat.zero_mul, Rat.zero_add] at h
  refine mul_rc (Rat.ne_of_gt hB) ?_
  rw [Rat.one_mul]
  exact h
theorem runQ_nonneg (l : List QP) : ∀ (ss : List (List Int)) (a : Rat), 0 ≤ a → 0 ≤ ss.foldl (fun a s => a + chQ l s) a
  | [], a, h => h
  | s :: r, a, h => runQ_nonneg l r _ (by
    have := ch_pos l s
    grind)
theorem add_qd (r c : Rat) : Rat.divInt (r.num * (c.den : Int) + c.num * (r.den : Int)) ((r.den : Int) * (c.den : Int)) = r + c := by
  have h1 : (r.den : Int) ≠ 0 := by have := r.den_pos; omega
  have h2 : (c.den : Int) ≠ 0 := by have := c.den_pos; omega
  have := Rat.divInt_add_divInt r.num c.num h1 h2
  rw [qd_self, qd_self] at this
  exact this.symm
theorem add_small {s : Nat} {r c : Rat} (hr : okQ s r) (hc : okQ 127 c) : (r.num * (c.den : Int) + c.num * (r.den : Int)).natAbs < 2 ^ (s + 128) ∧ ((r.den : Int) * (c.den : Int)).natAbs < 2 ^ (s + 128) := by
  have e : 2 ^ (s + 128) = 2 ^ s * 2 ^ 127 + 2 ^ s * 2 ^ 127 := by
    rw [Nat.pow_add, show 2 ^ 128 = 2 ^ 127 + 2 ^ 127 by decide, Nat.mul_add]
  have m1 : r.num.natAbs * c.den < 2 ^ s * 2 ^ 127 := Nat.mul_lt_mul'' hr.1 hc.2
  have m2 : r.den * c.num.natAbs < 2 ^ s * 2 ^ 127 := Nat.mul_lt_mul'' hr.2 hc.1
  have m3 : r.den * c.den < 2 ^ s * 2 ^ 127 := Nat.mul_lt_mul'' hr.2 hc.2
  rw [e]
  generalize 2 ^ s * 2 ^ 127 = M at m1 m2 m3 ⊢
  refine ⟨?_, ?_⟩
  · refine Nat.lt_of_le_of_lt (Int.natAbs_add_le _ _) ?_
    rw [Int.natAbs_mul, Int.natAbs_mul, Int.natAbs_natCast, Int.natAbs_natCast, Nat.mul_comm c.num.natAbs]
    exact Nat.add_lt_add m1 m2
  · rw [Int.natAbs_mul, Int.natAbs_natCast, Int.natAbs_natCast]
    exact Nat.lt_of_lt_of_le m3 (Nat.le_add_left _ _)
theorem num_nonneg {r : Rat} (h : 0 ≤ r) : 0 ≤ r.num := Rat.num_nonneg.mpr h
theorem add_okQ {s : Nat} {r c : Rat} (h0 : 0 ≤ r) (p : 0 < c) (hr : okQ s r) (hc : okQ 127 c) : okQ (s + 128) (r + c) := by
  obtain ⟨h1, h2⟩ := add_small hr hc
  have n0 := num_nonneg h0
  have n1 := num_pos_of p
  have d1 := r.den_pos
  have d2 := c.den_pos
  rw [← add_qd]
  refine okQ_qd ?_ ?_ h1 h2
  · exact Int.add_nonneg (Int.mul_nonneg n0 (by omega)) (Int.mul_nonneg (by omega) (by omega))
  · exact Int.mul_pos (by omega) (by omega)
/-- the loads that a set leaves out -/
def keepL (l : List QP) (s : List Int) : Nat → List QP
  | 0 => []
  | i + 1 => keepL l s i ++ if isIn i s = true then [] else l[i]?.toList
theorem keep_mem (l : List QP) (s : List Int) : ∀ i, (∀ w ∈ keepL l s i, w ∈ l) ∧ (keepL l s i).length ≤ i
  | 0 => ⟨(fun w h => by cases h), Nat.le_refl _⟩
  | i + 1 => by
    obtain ⟨h1, h2⟩ := keep_mem l s i
    show (∀ w ∈ keepL l s i ++ (if isIn i s = true then [] else l[i]?.toList), w ∈ l) ∧ (keepL l s i ++ (if isIn i s = true then [] else l[i]?.toList)).length ≤ i + 1
    cases isIn i s with
    | true =>
      rw [if_pos rfl, List.append_nil]
      exact ⟨h1, by omega⟩
    | false =>
      rw [if_neg Bool.false_ne_true, List.length_append]
      refine ⟨fun w hw => ?_, ?_⟩
      · rcases List.mem_append.mp hw with z | z
        · exact h1 w z
        · cases e : l[i]? with
          | none =>
            rw [e] at z
            cases z
          | some q =>
            rw [e] at z
            have : w = q := by simpa using z
            rw [this]
            exact List.mem_of_getElem? e
      · have : (l[i]?.toList).length ≤ 1 := by cases l[i]? <;> simp
        omega
theorem keep_sum (l : List QP) (s : List Int) : ∀ i, (gOdd.sum (keepL l s i)).1 = losN l s i
  | 0 => rfl
  | i + 1 => by
    have ih := keep_sum l s i
    show (gOdd.sum (keepL l s i ++ (if isIn i s = true then [] else l[i]?.toList))).1 = losN l s i * facL l[i]? (isIn i s)
    rw [Grp.sum_app, ← ih]
    show (gOdd.sum (keepL l s i)).1 * (gOdd.sum (if isIn i s = true then [] else l[i]?.toList)).1 = _
    congr 1
    cases isIn i s with
    | true =>
      cases l[i]? <;> rfl
    | false =>
      cases e : l[i]? with
      | none => rfl
      | some q =>
        show (gOdd.sum [q]).1 = q.1
        rw [Grp.sum_one]
theorem inV_int (x : Int) : ∀ s : List Int, inV (.int x) (s.map V.int) = decide (x ∈ s)
  | [] => by simp [inV]
  | y :: r => by
    have ih := inV_int x r
    unfold inV at ih ⊢
    rw [List.map_cons, List.any_cons, ih]
    by_cases e : y = x
    · subst e
      have : eqV (V.int y) (V.int y) = true := by simp [eqV]
      rw [this, decide_eq_true (List.mem_cons_self ..)]
      rfl
    · have : eqV (V.int y) (V.int x) = false := by simp [eqV, e]
      rw [this, Bool.false_or]
      by_cases h : x ∈ r
      · rw [decide_eq_true h, decide_eq_true (List.mem_cons_of_mem _ h)]
      · rw [decide_eq_false h, decide_eq_false]
        intro z
        rcases List.mem_cons.mp z with z | z
        · exact e z.symm
        · exact h z
theorem flat_ints : ∀ s : List Int, (s.map V.int).all flatV = true
  | [] => rfl
  | y :: r => by
    rw [List.map_cons, List.all_cons, flat_ints r]
    rfl
end Mo

set_option Elab.async false
set_option linter.all false
set_option maxRecDepth 100000
set_option maxHeartbeats 4000000
namespace Mo
open PySem PySem.Spec PyProof.Rows L2
/-! ### _law_sets, _law_loss, chance_of_rows -/
theorem cat_any (K : PySem.W.Frag) {H : Hp} {a b : Addr} {xs ys : List V} {Q : VK} (ha : H a = some (.tup xs)) (hb : H b = some (.tup ys)) (hl : xs.length + ys.length ≤ sizeLine) (k : ∀ p H', Same H H' → H' p = some (.tup (xs ++ ys)) → Q (.ref p) H') :
    rCatA K (.ref a) (.ref b) H Q :=
  ⟨a, b, xs, ys, rfl, rfl, SqT.of ha, SqT.of hb, hl, fun e => k b H (Same.refl _) (by rw [e]; exact hb), fun _ e => k a H (Same.refl _) (by rw [e, List.append_nil]; exact ha), fun _ _ p hp => k p _ (Same.new hp) upd_same⟩
abbrev TupsAt (H : Hp) (rs : List V) (ss : List (List Int)) : Prop := Paired (fun v s => AmV H v (.t s)) rs ss
theorem TupsAt.mono {H H' : Hp} (s : Same H H') : ∀ {rs : List V} {ss : List (List Int)}, TupsAt H rs ss → TupsAt H' rs ss
  | _, _, .nil => .nil
  | _, _, .cons h r => .cons (h.mono s) (TupsAt.mono s r)
theorem AmV.keep {H : Hp} {R : Addr} {acc : List V} {o : HO} {v : V} {a : Am} (hR : H R = some (.lst acc)) (h : AmV H v a) : AmV (upd H R o) v a := by
  cases a with
  | i n => exact h
  | t ns =>
    obtain ⟨p, e, hp⟩ := h
    exact ⟨p, e, by rw [upd_ne (fun z => by rw [z, hR] at hp; cases hp)]; exact hp⟩
theorem TupsAt.keep {H : Hp} {R : Addr} {acc : List V} {o : HO} (hR : H R = some (.lst acc)) : ∀ {rs : List V} {ss : List (List Int)}, TupsAt H rs ss → TupsAt (upd H R o) rs ss
  | _, _, .nil => .nil
  | _, _, .cons h r => .cons (h.keep hR) (TupsAt.keep hR r)
theorem Paired.app {α β : Type} {F : α → β → Prop} {us : List α} {vs : List β} (h2 : Paired F us vs) : ∀ {xs : List α} {ys : List β}, Paired F xs ys → Paired F (xs ++ us) (ys ++ vs)
  | _, _, .nil => h2
  | _, _, .cons h r => .cons h (Paired.app h2 r)
def spSets : Sp := fun vs H Q _ => ∃ m : Nat, vs = [.int (m : Int)] ∧ m ≤ 6 ∧ ∀ q rs H', Same H H' → H' q = some (.lst rs) → TupsAt H' rs (sets m) → Q (.ref q) H'
section
variable {P : Program} {w : World} {K : PySem.W.Frag} {mg : Str → Option Value} {base : Heap} {C0 C1 C2 C3 : Addr} {D : Kd}
theorem sc37 : FnScope ["_law_total", "_law_found", "_law_at", "_law_one"] ["_law_total"] (defScope (top 37)) := ⟨rfl, rfl, rfl, by decide +kernel, rfl, by decide +kernel, by decide +kernel⟩
theorem g_sets (T : Txt K mg C0 C1 C2 C3) : Gf P w K mg base 1 "_law_sets" spSets := by
  refine gf_of T.d_law_sets sc37 (fun vs H Q E h => ?_) (fun _ _ _ _ _ _ us hl => match us, hl with | [_], _ => rfl) fun f cdv A outer s H vs Q E hr h => ?_
  · obtain ⟨m, rfl, _⟩ := h
    rfl
  · obtain ⟨m, rfl, hm, k⟩ := h
    refine ⟨_, pss_cons (ps_set (i := 1) sc37.nd rfl (Or.inl rfl) (pe_lst (pa_cons (pe_tup pa_nil) pa_nil)))
      (pss_cons (ps_for PassesOwn.never rfl (pi_range1 rfl T.frange (pa_cons (pv 0) pa_nil)) (pg_name (i := 2) sc37.nd rfl (Or.inr rfl))
        (pss_one (ps_set (i := 1) sc37.nd rfl (Or.inl rfl) (pe_op op_cat (pv 1) (pe_lc (own := [("_law_one", 3)]) (g := gName 3) (tt := tYes) (te := tOp (rCatA K) (tVar 3) (tTup (tCons (tVar 2) tNil))) rfl sc37.nd (pi_list (pv 1))
            (blkOk_by (own := [("_law_one", 3)]) (N := ["_law_total", "_law_found", "_law_at", "_law_one"]) (sc := defScope (top 37)) (by decide +kernel))
            (fun _ _ _ _ _ => pg_name (i := 3) sc37.nd rfl (Or.inl rfl)) (fun _ _ _ _ _ => pts_nil) (fun s1 H1 c1 cl1 fp1 => ?_))))))
      (pss_one (ps_ret (pv 1)))), ?_⟩
    · exact pe_op op_catA (pv 3) (pe_tup (pa_cons (pv 2) pa_nil))
    refine ⟨Nat.zero_le _, fun e he => ⟨(by show 1 ≤ sizeLine; decide), fun R hR => ?_⟩⟩
    have s1 : Same H (upd (upd H e (.tup [])) R (.lst [.ref e])) := (Same.new he).trans (Same.new hR)
    have he1 : (upd (upd H e (.tup [])) R (.lst [.ref e])) e = some (.tup (([] : List Int).map V.int)) := Same.new hR _ _ upd_same
    have hR1 : (upd (upd H e (.tup [])) R (.lst [.ref e])) R = some (.lst [.ref e]) := upd_same
    generalize upd (upd H e (.tup [])) R (.lst [.ref e]) = H1 at s1 he1 hR1
    refine ⟨_, rfl, (m : Int), rfl, by omega, by omega, for_range (lo := 0) (n := ((m : Int)).toNat) (fun i σ H' => Same H H' ∧ ∃ (R : Addr) (rs : List V) (v : Option V), σ = [some (.int (m : Int)), some (.ref R), v, none] ∧ H' R = some (.lst rs) ∧ TupsAt H' rs (sets i))
      ⟨s1, R, _, none, rfl, hR1, .cons ⟨e, rfl, he1⟩ .nil⟩ ?_ ?_⟩
    · rintro i σ H2 hi ⟨s2, R2, rs, v, rfl, hR2, hrs⟩
      have hi : i < m := by omega
      have hrl : rs.length = 2 ^ i := by rw [hrs.length, sets_len]
      have h64 : 2 ^ i ≤ 2 ^ 5 := Nat.pow_le_pow_right (by decide) (by omega)
      refine ⟨_, rfl, _, rfl, R2, rfl, ⟨_, SqL.of hR2⟩, fun Z hZ => lc_list (K := K) (a := R2) (xs := rs) (fun j H3 => Same H2 H3 ∧ ∃ acc, H3 Z = some (.lst acc) ∧ TupsAt H3 acc (((sets i).take j).map fun s => s ++ [(i : Int)])) ⟨Same.new hZ, [], upd_same, .nil⟩
        (fun j H3 _ ⟨s3, _⟩ => SqL.of (s3 _ _ hR2)) ?_ ?_⟩
      · rintro j x H3 hx ⟨s3, acc, hacc, hra⟩
        obtain ⟨sj, hsj, q, rfl, hq⟩ := Paired.at_ (TupsAt.mono s3 hrs) hx
        have hjl : j < (sets i).length := (List.getElem?_eq_some_iff.mp hsj).1
        have hal := hra.length
        rw [List.length_map, List.length_take, sets_len] at hal
        have hsl := sets_small i sj (List.mem_of_getElem? hsj)
        refine ⟨rfl, _, rfl, _, rfl, (by show 1 ≤ sizeLine; decide), fun u hu => cat_any K (Same.new hu _ _ hq) upd_same ?_ fun z H4 s4 hz => ?_⟩
        · rw [List.length_map]
          exact Nat.le_of_lt (small1000 (by have e : [V.int (0 + (i : Int))].length = 1 := rfl; omega))
        · have s34 := (Same.new (o := .tup [V.int (0 + (i : Int))]) hu).trans s4
          have hZ4 := s34 _ _ hacc
          refine ⟨acc, hZ4, small1000 (by omega), ?_, _, upd_same, ?_⟩
          · exact fun c o e => by
              rw [upd_ne (fun y => by rw [y, hZ] at e; cases e)]
              exact s34 _ _ (s3 _ _ e)
          · rw [take_snoc hsj, List.map_append]
            refine (TupsAt.keep hZ4 (TupsAt.mono s34 hra)).snoc (AmV.keep hZ4 ⟨z, rfl, ?_⟩)
            rw [hz, List.map_append, Int.zero_add]
            rfl
      · rintro H3 ⟨s3, acc, hacc, hra⟩
        rw [hrl, List.take_of_length_le (by rw [sets_len]; exact Nat.le_refl _)] at hra
        have hal := hra.length
        rw [List.length_map, sets_len] at hal
        refine ⟨R2, Z, _, _, rfl, rfl, s3 _ _ hR2, hacc, Nat.le_of_lt (small1000 (by omega)), fun W hW => ?_⟩
        exact ⟨s2.trans (s3.trans (Same.new hW)), W, _, _, rfl, upd_same, TupsAt.mono (Same.new hW) (Paired.app hra (TupsAt.mono s3 hrs))⟩
    · rintro σ H2 ⟨s2, R2, rs, v, rfl, hR2, hrs⟩
      exact ⟨_, rfl, k R2 rs H2 s2 hR2 hrs⟩
end
end Mo

set_option Elab.async false
set_option linter.all false
set_option maxRecDepth 100000
set_option maxHeartbeats 4000000
namespace Mo
open PySem PySem.Spec PyProof.Rows L2
/-! ### _law_loss, chance_of_rows -/
theorem Ams.keep {G : Grp} {H : Hp} {R : Addr} {acc : List V} {o : HO} (hR : H R = some (.lst acc)) : ∀ {rs : List V} {ss : List G.α}, Ams G H rs ss → Ams G (upd H R o) rs ss
  | _, _, .nil => .nil
  | _, _, .cons h r => .cons (h.keep hR) (Ams.keep hR r)
def spLoss (C3 : Addr) : Sp := fun vs H Q _ => ∃ p t u xs l s, vs = [.ref p, .ref t, .ref u] ∧ ScAt (dOdd C3) H p ∧ H t = some (.tup xs) ∧ Ams gOdd H xs l ∧ H u = some (.tup (s.map V.int)) ∧ (∀ x ∈ l, gOdd.ok 140 x) ∧ l.length ≤ 6 ∧
  ∀ v H', Same H H' → AmV H' v (gOdd.am (gOdd.sum (keepL l s l.length))) → Q v H'
section
variable {P : Program} {w : World} {K : PySem.W.Frag} {mg : Str → Option Value} {base : Heap} {C0 C1 C2 C3 : Addr} {D : Kd}
theorem sc38 : FnScope ["_law_meter", "_law_loads", "_law_chosen", "_law_at", "_law_load"] ["_law_meter", "_law_loads", "_law_chosen"] (defScope (top 38)) := ⟨rfl, rfl, rfl, by decide +kernel, rfl, by decide +kernel, by decide +kernel⟩
theorem g_loss (T : Txt K mg C0 C1 C2 C3) : Gf P w K mg base 8 "_law_loss" (spLoss C3) := by
  refine gf_of T.d_law_loss sc38 (fun vs H Q E h => ?_) (fun _ _ _ _ _ _ us hl => match us, hl with | [_, _, _], _ => rfl) fun f cdv A outer s H vs Q E hr h => ?_
  · obtain ⟨p, t, u, xs, l, ns, rfl, _⟩ := h
    rfl
  · obtain ⟨p, t, u, xs, l, ns, rfl, hs, ht, hl, hu, hok, h6, k⟩ := h
    have hll : xs.length = l.length := hl.length
    refine ⟨_, pss_one (ps_ret (pe_m (m_plusA T (abs3 T)) T.c3.cl hr (pv 0) (pa_cons (pe_callTy call_tuple_of rfl T.ftuple boot_tuple (pa_cons
        (pe_lc (own := [("_law_at", 3), ("_law_load", 4)]) (g := gTup K 2 (gCons (gName 3) (gCons (gName 4) gNil))) (tt := tTest (tOp (rIn K true) (tVar 3) (tVar 2))) (te := tVar 4) rfl sc38.nd (pi_enumT rfl T.fenumerate (pa_cons (pv 1) pa_nil))
            (blkOk_by (own := [("_law_at", 3), ("_law_load", 4)]) (N := ["_law_meter", "_law_loads", "_law_chosen", "_law_at", "_law_load"]) (sc := defScope (top 38)) (by decide +kernel))
            (fun _ _ _ _ _ => pg_tup rfl (pgs_cons (pg_name (i := 3) sc38.nd rfl (Or.inl rfl)) (pgs_cons (pg_name (i := 4) sc38.nd rfl (Or.inl rfl)) pgs_nil))) (fun s1 H1 c1 cl1 fp1 => pts_one ?_)
            (fun _ _ _ _ _ => pv 4)) pa_nil)) pa_nil))), ?_⟩
    · exact pt_cmpR op_notIn_seq (pv 3) (pv 2) rfl
    obtain ⟨dx, fs, g1, g2⟩ := sc_recv (m := "plus_all") hs (by decide +kernel)
    refine ⟨_, rfl, p, dx, fs, rfl, g1, g2, _, rfl, t, _, rfl, SqT.of ht, fun Z hZ => ?_⟩
    refine lc_it (walk_enumT (K := K) (a := t) (xs := xs)) (fun i H4 => Same H H4 ∧ ∃ acc, H4 Z = some (.lst acc) ∧ Ams gOdd H4 acc (keepL l ns i)) ⟨Same.new hZ, [], upd_same, .nil⟩ (fun i H4 _ ⟨s4, _⟩ => SqT.of (s4 _ _ ht)) ?_ ?_
    · rintro i x H4 H5 hi ⟨s4, acc, hacc, hra⟩ ⟨Tn, x1, x2, rfl, hT, rfl, e1, e2⟩
      have e1 := Option.some.inj e1
      subst e1
      have ne : Z ≠ Tn := ne_of_none hacc hT
      have s5 : Same H4 (upd H4 Tn (.tup [.int (i : Int), x2])) := Same.new hT
      have s45 := s4.trans s5
      obtain ⟨y, hy, hyv⟩ := Paired.at_ (Ams.mono s45 hl) e2
      have hal : acc.length ≤ i := by
        rw [hra.length]
        exact (keep_mem l ns i).2
      refine ⟨_, _, rfl, SqT.of upd_same, rfl, _, _, rfl, _, _, rfl, rfl, rfl, _, rfl, _, rfl, u, _, rfl, .inr (SqT.of (s45 _ _ hu)), rfl, flat_ints ns, _, rfl, ?_⟩
      have hz5 : (upd H4 Tn (.tup [.int (i : Int), x2])) Z = some (.lst acc) := s5 _ _ hacc
      have ekeep : keepL l ns (i + 1) = keepL l ns i ++ if isIn i ns = true then [] else [y] := by
        show keepL l ns i ++ (if isIn i ns = true then [] else l[i]?.toList) = _
        rw [hy]
        rfl
      rw [if_pos rfl, inV_int]
      cases e : decide ((i : Int) ∈ ns) with
      | true =>
        have e' : isIn i ns = true := e
        rw [e', if_pos rfl, List.append_nil] at ekeep
        rw [ekeep]
        exact iteF ⟨s45, acc, hz5, Ams.mono s5 hra⟩
      | false =>
        have e' : isIn i ns = false := e
        rw [e', if_neg Bool.false_ne_true] at ekeep
        rw [ekeep]
        refine iteT ⟨_, rfl, acc, hz5, small1000 (by omega), ?_, _, upd_same, ?_⟩
        · exact fun c o q => by rw [upd_ne (fun z => by rw [z, hZ] at q; cases q)]; exact s45 _ _ q
        · exact (Ams.keep hz5 (Ams.mono s5 hra)).snoc (hyv.keep hz5)
    · rintro H4 ⟨s4, acc, hacc, hra⟩
      rw [hll] at hra
      obtain ⟨k1, k2⟩ := keep_mem l ns l.length
      refine ⟨Z, _, rfl, .inl ⟨SqL.of hacc, fun q hq => ?_⟩⟩
      have s5 := s4.trans (Same.new (o := .tup acc) hq)
      exact ⟨p, q, acc, keepL l ns l.length, 140, rfl, hs.mono s5, upd_same, Ams.mono (Same.new hq) hra, fun y hy => hok y (k1 y hy), by omega, by omega, fun z H6 s6 hz => k z H6 (s5.trans s6) hz⟩
end
end Mo

set_option Elab.async false
set_option linter.all false
set_option maxRecDepth 100000
set_option maxHeartbeats 4000000
namespace Mo
open PySem PySem.Spec PyProof.Rows L2
/-! ### chance_of_rows -/
def spChance : Sp := fun vs H Q _ => ∃ t u xs l s, vs = [.ref t, .ref u] ∧ H t = some (.tup xs) ∧ Ams gOdd H xs l ∧ (∀ x ∈ l, isW x) ∧ l.length ≤ 6 ∧ H u = some (.tup (s.map V.int)) ∧ s.length ≤ 100 ∧ (∀ x ∈ s, 0 ≤ x ∧ x < (l.length : Int)) ∧ asc s = true ∧
  ∀ v H', Same H H' → AmV H' v (.t [(chQ l s).num, ((chQ l s).den : Int)]) → Q v H'
theorem bot_le {l : List QP} {i : Nat} (h : ∀ w ∈ l, isW w) (hi : i ≤ 6) (s : List Int) : (topN l s i).natAbs < 2 ^ 127 ∧ (botN l i).natAbs < 2 ^ 127 := by
  have h1 := bot_small h i
  have h2 : (2 ^ 21) ^ i ≤ (2 ^ 21) ^ 6 := Nat.pow_le_pow_right (by decide) hi
  have h3 : (2 ^ 21) ^ 6 < 2 ^ 127 := by decide
  obtain ⟨h4, h5⟩ := top_pos l s i
  have h6 : (topN l s i).natAbs ≤ (botN l i).natAbs := by omega
  have h7 : (botN l i).natAbs < 2 ^ 127 := Nat.lt_of_le_of_lt (Nat.le_trans h1 h2) h3
  exact ⟨Nat.lt_of_le_of_lt h6 h7, h7⟩
section
variable {P : Program} {w : World} {K : PySem.W.Frag} {mg : Str → Option Value} {base : Heap} {C0 C1 C2 C3 : Addr} {D : Kd}
theorem sc25 : FnScope ["weights", "indices", "scale", "weight", "top", "bottom", "index"] ["weights", "indices"] (defScope (top 25)) := ⟨rfl, rfl, rfl, by decide +kernel, rfl, by decide +kernel, by decide +kernel⟩
theorem g_chance (T : Txt K mg C0 C1 C2 C3) : Gf P w K mg base 6 "chance_of_rows" spChance := by
  refine gf_of T.dchance_of_rows sc25 (fun vs H Q E h => ?_) (fun _ _ _ _ _ _ us hl => match us, hl with | [_, _], _ => rfl) fun f cdv A outer s H vs Q E hr h => ?_
  · obtain ⟨t, u, xs, l, ns, rfl, _⟩ := h
    rfl
  · obtain ⟨t, u, xs, l, ns, rfl, ht, hl, hw, h6, hu, hns, hin, hasc, k⟩ := h
    have hll : xs.length = l.length := hl.length
    obtain ⟨tk, hmw⟩ := T.iMOST_WEIGHTS
    refine ⟨_, pss_cons (ps_set (i := 2) sc25.nd rfl (Or.inr rfl) (pe_s0 (s_odds T) T.rd hr (pe_glob rfl T.mg0 (v := .ref C0) rfl)))
      (pss_cons (ps_if (PW.pt (pw_or (pt_not (pt_val (pe_callB call_isi rfl T.fisinstance boot_isinstance (pa_cons (pv 0) (pa_cons (pe_bltn rfl T.ftuple boot_tuple (v := .ty "tuple") rfl) pa_nil)))))
        (pw_or1 (pt_cmpR op_gt (pe_callB call_len_seq rfl T.flen PySem.boot_len (pa_cons (pv 0) pa_nil)) (pe_glob rfl hmw (v := .int 200) ⟨_, rfl⟩) (nomark _))))) pss_never pss_nil)
      (pss_cons (ps_if (pt_not (pt_val (pe_callB (cr_all rfl) rfl T.fall (by decide +kernel) (pa_cons
          (pe_lc (own := [("weight", 3)]) (g := gName 3) (tt := tYes) (te := tM C3 "is_weight" (spIsW (dOdd C3)) (tVar 2) (tCons (tVar 3) tNil)) rfl sc25.nd (pi_tup (pv 0))
            (blkOk_by (own := [("weight", 3)]) (N := ["weights", "indices", "scale", "weight", "top", "bottom", "index"]) (sc := defScope (top 25)) (by decide +kernel))
            (fun _ _ _ _ _ => pg_name (i := 3) sc25.nd rfl (Or.inl rfl)) (fun _ _ _ _ _ => pts_nil) (fun s1 H1 c1 cl1 fp1 => ?_)) pa_nil)))) pss_never pss_nil)
      (pss_cons (ps_if (pt_not (pt_val (pe_g (g_indices T) hr rfl (pa_cons (pe_callB call_len_seq rfl T.flen PySem.boot_len (pa_cons (pv 0) pa_nil)) (pa_cons (pv 1) pa_nil))))) pss_never pss_nil)
      (pss_cons (ps_asg (pe_tup (pa_cons pe_int (pa_cons pe_int pa_nil))) (pg_tup rfl (pgs_cons (pg_name (i := 4) sc25.nd rfl (Or.inl rfl)) (pgs_cons (pg_name (i := 5) sc25.nd rfl (Or.inl rfl)) pgs_nil))))
      (pss_cons (ps_for PassesOwn.never rfl (pi_enumT rfl T.fenumerate (pa_cons (pv 0) pa_nil)) (pg_tup rfl (pgs_cons (pg_name (i := 6) sc25.nd rfl (Or.inl rfl)) (pgs_cons (pg_name (i := 3) sc25.nd rfl (Or.inl rfl)) pgs_nil)))
        (pss_cons (ps_set (i := 4) sc25.nd rfl (Or.inl rfl) (pe_op op_mulW (pv 4) (pe_ix ix_tup (pv 3) (pe_callTy call_int1 rfl T.fint boot_int (pa_cons (pe_cmpR op_notIn_seq (pv 6) (pv 1) rfl) pa_nil)) (fun _ _ => rfl))))
        (pss_one (ps_set (i := 5) sc25.nd rfl (Or.inl rfl) (pe_op op_mulW (pv 5) (pe_op op_add (pe_ix ix_tup (pv 3) pe_int (fun _ _ => rfl)) (pe_ix ix_tup (pv 3) pe_int (fun _ _ => rfl))))))))
      (pss_one (ps_ret (pe_g (g_reduced T) hr rfl (pa_cons (pv 4) (pa_cons (pv 5) pa_nil)))))))))), ?_⟩
    · exact pe_m (m_isw T) T.c3.cl hr (pv 2) (pa_cons (pv 3) pa_nil)
    -- scale = Scale.odds()
    refine ⟨rfl, rfl, fun p H1 s1 hs => ?_⟩
    have ht1 := s1 _ _ ht
    refine ⟨_, rfl, _, _, _, _, true, rfl, .ty _, .base (.tup ht1), kit_ty (by decide +kernel), true, rfl, iteF ?_⟩
    refine ⟨_, rfl, t, _, rfl, .inr (SqT.of ht1), _, _, rfl, rfl, _, rfl, ?_⟩
    rw [decide_eq_false (show ¬ ((xs.length : Int) > 200) by omega)]
    refine iteF ⟨_, rfl, t, rfl, ⟨_, SqT.of ht1⟩, fun Z hZ => lc_tup (K := K) (a := t) (xs := xs) (fun i H2 => Same H1 H2 ∧ H2 Z = some (.lst ((List.replicate i true).map V.bl))) ⟨Same.new hZ, upd_same⟩
      (fun i H2 _ ⟨s2, _⟩ => SqT.of (s2 _ _ ht1)) ?_ ?_⟩
    · rintro i v H2 hv ⟨s2, hZ2⟩
      obtain ⟨x, hx, hxv⟩ := Paired.at_ (Ams.mono (s1.trans s2) hl) hv
      have hi : i < xs.length := (List.getElem?_eq_some_iff.mp hv).1
      obtain ⟨dx, fs, g1, g2⟩ := sc_recv (m := "is_weight") (hs.mono s2) (by decide +kernel)
      refine ⟨rfl, _, rfl, p, dx, fs, rfl, g1, g2, _, rfl, p, v, x, rfl, hs.mono s2, rfl, hxv, hw x (List.mem_of_getElem? hx), fun H3 s3 => ?_⟩
      refine ⟨_, s3 _ _ hZ2, ?_, ?_⟩
      · rw [len_rep]
        exact small1000 (by omega)
      · rw [repl_next]
        exact ⟨fun c o q => by rw [upd_ne (fun z => by rw [z, hZ] at q; cases q)]; exact s3 _ _ (s2 _ _ q), upd_same⟩
    · rintro H2 ⟨s2, hZ2⟩
      refine ⟨_, _, rfl, SqL.of hZ2, _, rfl, ?_⟩
      rw [repl_true]
      have s12 := s1.trans s2
      refine iteF ⟨_, rfl, t, _, rfl, .inr (SqT.of (s12 _ _ ht)), _, rfl, _, u, ns, rfl, s12 _ _ hu, hns, fun x hx => ?_, hasc, fun H3 s3 => ⟨_, rfl, iteF ?_⟩⟩
      · have := hin x hx
        omega
      · have s13 := s12.trans s3
        refine ⟨(by show 2 ≤ sizeLine; decide), fun tp htp => ⟨tp, _, rfl, SqT.of upd_same, rfl, _, _, rfl, _, _, rfl, rfl, ?_⟩⟩
        have s14 := s13.trans (Same.new (o := .tup [.int 1, .int 1]) htp)
        generalize upd H3 tp (.tup [.int 1, .int 1]) = H4 at s14
        refine ⟨_, rfl, t, _, rfl, SqT.of (s14 _ _ ht), for_it (walk_enumT (K := K) (a := t) (xs := xs)) (fun i σ H' => Same H H' ∧ ∃ (v6 v3 : Option V), σ = [some (.ref t), some (.ref u), some (.ref p), v3, some (.int (topN l ns i)), some (.int (botN l i)), v6])
          ⟨s14, none, none, rfl⟩ (fun i σ H' _ ⟨s', _⟩ => SqT.of (s' _ _ ht)) ?_ ?_⟩
        · rintro i x σ H5 H6 hi ⟨s5, v6, v3, rfl⟩ ⟨Tn, x1, x2, rfl, hT, rfl, e1, e2⟩
          have e1 := Option.some.inj e1
          subst e1
          have s6 := s5.trans (Same.new (o := .tup [.int (i : Int), x2]) hT)
          obtain ⟨y, hy, q, rfl, hq⟩ := Paired.at_ (Ams.mono s6 hl) e2
          have hi6 : i ≤ 6 := by omega
          obtain ⟨b1, b2⟩ := bot_le hw hi6 ns
          obtain ⟨w1, w2⟩ := hw y (List.mem_of_getElem? hy)
          have np := num_pos_of y.2
          have dp := den_pos' y.1
          have f1 : y.1.num.natAbs < 2 ^ 21 := Nat.lt_of_le_of_lt (show y.1.num.natAbs ≤ 1000000 by omega) (by decide)
          have f2 : ((y.1.den : Int)).natAbs < 2 ^ 21 := Nat.lt_of_le_of_lt (show ((y.1.den : Int)).natAbs ≤ 1000000 by omega) (by decide)
          have f3 : (y.1.num + (y.1.den : Int)).natAbs < 2 ^ 21 := Nat.lt_of_le_of_lt (show (y.1.num + (y.1.den : Int)).natAbs ≤ 2000000 by omega) (by decide)
          have et : topN l ns (i + 1) = topN l ns i * (if isIn i ns = true then y.1.num else (y.1.den : Int)) := by
            show topN l ns i * facT l[i]? (isIn i ns) = _
            rw [hy]
            rfl
          have eb : botN l (i + 1) = botN l i * (y.1.num + (y.1.den : Int)) := by
            show botN l i * facB l[i]? = _
            rw [hy]
            rfl
          refine ⟨_, _, rfl, SqT.of upd_same, rfl, _, _, rfl, _, _, rfl, rfl, ?_⟩
          refine ⟨_, rfl, _, rfl, _, rfl, _, rfl, u, _, rfl, .inr (SqT.of (s6 _ _ hu)), rfl, flat_ints ns, .inr ⟨_, rfl, ?_⟩⟩
          rw [if_pos rfl, inV_int]
          rw [et, eb]
          cases e : decide ((i : Int) ∈ ns) with
          | true =>
            have e' : isIn i ns = true := e
            rw [e', if_pos rfl]
            exact ⟨q, _, _, _, rfl, rfl, SqT.of hq, atI_nat (j := 0) rfl, _, _, rfl, rfl, okQ_mulW b1 f1 (by decide), _, rfl, _, rfl, q, _, _, _, rfl, rfl, SqT.of hq, atI_nat (j := 0) rfl, _, rfl, q, _, _, _, rfl, rfl, SqT.of hq, atI_nat (j := 1) rfl, _, _, rfl, rfl, _, _, rfl, rfl, okQ_mulW b2 f3 (by decide),
              s6, _, _, rfl⟩
          | false =>
            have e' : isIn i ns = false := e
            rw [e', if_neg Bool.false_ne_true]
            exact ⟨q, _, _, _, rfl, rfl, SqT.of hq, atI_nat (j := 1) rfl, _, _, rfl, rfl, okQ_mulW b1 f2 (by decide), _, rfl, _, rfl, q, _, _, _, rfl, rfl, SqT.of hq, atI_nat (j := 0) rfl, _, rfl, q, _, _, _, rfl, rfl, SqT.of hq, atI_nat (j := 1) rfl, _, _, rfl, rfl, _, _, rfl, rfl, okQ_mulW b2 f3 (by decide),
              s6, _, _, rfl⟩
        · rintro σ H5 ⟨s5, v6, v3, rfl⟩
          rw [hll]
          obtain ⟨b1, b2⟩ := bot_le hw h6 ns
          refine ⟨_, rfl, _, rfl, topN l ns l.length, botN l l.length, 127, rfl, (top_pos l ns _).1, bot_pos l _, b1, b2, by decide, fun r hr0 => ?_⟩
          exact k _ _ (s5.trans (Same.new hr0)) ⟨r, rfl, upd_same⟩
end
end Mo

set_option Elab.async false
set_option linter.all false
set_option maxRecDepth 100000
set_option maxHeartbeats 4000000
namespace Mo
open PySem PySem.Spec PyProof.Rows L2
/-! ### _law_chances_right -/
def RStep (R : Addr) (H H' : Hp) : Prop := ∀ b o, b ≠ R → H b = some o → H' b = some o
theorem RStep.same {R : Addr} {H H1 H2 : Hp} (a : RStep R H H1) (b : Same H1 H2) : RStep R H H2 := fun c o n e => b c o (a c o n e)
theorem RStep.set {R : Addr} {H H1 : Hp} {o : HO} (a : RStep R H H1) : RStep R H (upd H1 R o) := fun c u n e => by
  rw [upd_ne n]
  exact a c u n e
theorem RStep.full {R : Addr} {H0 H H1 : Hp} (a : RStep R H H1) (s : Same H0 H) (h : H0 R = none) : Same H0 H1 := fun c u e => a c u (fun z => by rw [z, h] at e; cases e) (s c u e)
def RowAt (H : Hp) (l : List QP) (v : V) (s : List Int) : Prop := ∃ x y lv, v = .ref x ∧ H x = some (.tup [.ref y, lv]) ∧ H y = some (.tup [.int (chQ l s).num, .int ((chQ l s).den : Int)]) ∧ AmV H lv (gOdd.am (gOdd.sum (keepL l s l.length)))
theorem RowAt.mono {H H' : Hp} {l : List QP} {v : V} {s : List Int} (sm : Same H H') (h : RowAt H l v s) : RowAt H' l v s := by
  obtain ⟨x, y, lv, e, h1, h2, h3⟩ := h
  exact ⟨x, y, lv, e, sm _ _ h1, sm _ _ h2, h3.mono sm⟩
theorem RowAt.keep {H : Hp} {R : Addr} {acc : List V} {o : HO} {l : List QP} {v : V} {s : List Int} (hR : H R = some (.lst acc)) (h : RowAt H l v s) : RowAt (upd H R o) l v s := by
  obtain ⟨x, y, lv, e, h1, h2, h3⟩ := h
  refine ⟨x, y, lv, e, ?_, ?_, h3.keep hR⟩
  · rw [upd_ne (fun z => by rw [z, hR] at h1; cases h1)]
    exact h1
  · rw [upd_ne (fun z => by rw [z, hR] at h2; cases h2)]
    exact h2
abbrev RowsAt (H : Hp) (l : List QP) (rs : List V) (ss : List (List Int)) : Prop := Paired (RowAt H l) rs ss
theorem RowsAt.mono {H H' : Hp} {l : List QP} (sm : Same H H') : ∀ {rs : List V} {ss : List (List Int)}, RowsAt H l rs ss → RowsAt H' l rs ss
  | _, _, .nil => .nil
  | _, _, .cons h r => .cons (h.mono sm) (RowsAt.mono sm r)
theorem RowsAt.keep {H : Hp} {R : Addr} {acc : List V} {o : HO} {l : List QP} (hR : H R = some (.lst acc)) : ∀ {rs : List V} {ss : List (List Int)}, RowsAt H l rs ss → RowsAt (upd H R o) l rs ss
  | _, _, .nil => .nil
  | _, _, .cons h r => .cons (h.keep hR) (RowsAt.keep hR r)
theorem AmV.rstep {H H' : Hp} {R : Addr} {acc : List V} {v : V} {a : Am} (hR : H R = some (.lst acc)) (s : RStep R H H') (h : AmV H v a) : AmV H' v a := by
  cases a with
  | i n => exact h
  | t ns =>
    obtain ⟨p, e, hp⟩ := h
    exact ⟨p, e, s _ _ (fun z => by rw [z, hR] at hp; cases hp) hp⟩
theorem ScAt.rstep {D : Kd} {H H' : Hp} {R p : Addr} {acc : List V} (hR : H R = some (.lst acc)) (s : RStep R H H') (h : ScAt D H p) : ScAt D H' p := by
  obtain ⟨dx, z, o, h1, h2⟩ := h
  exact ⟨dx, z, o, s _ _ (fun z => by rw [z, hR] at h1; cases h1) h1, h2.rstep hR s⟩
theorem TupsAt.rstep {H H' : Hp} {R : Addr} {acc : List V} (hR : H R = some (.lst acc)) (s : RStep R H H') : ∀ {rs : List V} {ss : List (List Int)}, TupsAt H rs ss → TupsAt H' rs ss
  | _, _, .nil => .nil
  | _, _, .cons h r => .cons (h.rstep hR s) (TupsAt.rstep hR s r)
theorem okQ_0 : okQ 1 0 := ⟨by decide, by decide⟩
theorem run0 (l : List QP) : runQ l [] = 0 := rfl
def spChances : Sp := fun vs H Q _ => ∃ t xs l, vs = [.ref t] ∧ H t = some (.tup xs) ∧ Ams gOdd H xs l ∧ (∀ x ∈ l, isW x) ∧ l.length ≤ 6 ∧ ∀ H', Same H H' → Q (.bl true) H'
theorem okQ_c {l : List QP} {s : List Int} (hw : ∀ x ∈ l, isW x) (h6 : l.length ≤ 6) : okQ 127 (chQ l s) := by
  obtain ⟨b1, b2⟩ := bot_le hw h6 s
  have p := (top_pos l s l.length).1
  exact okQ_qd (by omega) (bot_pos l _) b1 b2
theorem less_row {l : List QP} {s t : List Int} : gOdd.lt (gOdd.sum (keepL l s l.length)) (gOdd.sum (keepL l t l.length)) = decide ((chQ l t).num * ((chQ l s).den : Int) < (chQ l s).num * ((chQ l t).den : Int)) := by
  show decide ((gOdd.sum (keepL l s l.length)).1 < (gOdd.sum (keepL l t l.length)).1) = _
  rw [keep_sum, keep_sum]
  have e := ch_cmp l s t
  have f := Rat.lt_iff (chQ l t) (chQ l s)
  by_cases h : losN l s l.length < losN l t l.length
  · rw [decide_eq_true h, decide_eq_true (f.mp (e.mp h))]
  · rw [decide_eq_false h, decide_eq_false fun z => h (e.mpr (f.mpr z))]
section
variable {P : Program} {w : World} {K : PySem.W.Frag} {mg : Str → Option Value} {base : Heap} {C0 C1 C2 C3 : Addr} {D : Kd}
theorem sc39 : FnScope ["_law_loads", "_law_meter", "_law_total", "_law_rows", "_law_chosen", "_law_top", "_law_bottom", "_law_one", "_law_other"] ["_law_loads"] (defScope (top 39)) := ⟨rfl, rfl, rfl, by decide +kernel, rfl, by decide +kernel, by decide +kernel⟩
theorem g_chances (T : Txt K mg C0 C1 C2 C3) : Gf P w K mg base 9 "_law_chances_right" spChances := by
  refine gf_of T.d_law_chances_right sc39 (fun vs H Q E h => ?_) (fun _ _ _ _ _ _ us hl => match us, hl with | [_], _ => rfl) fun f cdv A outer s H vs Q E hr h => ?_
  · obtain ⟨t, xs, l, rfl, _⟩ := h
    rfl
  · obtain ⟨t, xs, l, rfl, ht, hl, hw, h6, k⟩ := h
    have hll : xs.length = l.length := hl.length
    refine ⟨_, pss_cons (ps_par (i := 1) (j := 2) rfl sc39.nd rfl rfl (by decide) rfl rfl (pa_cons (pe_s0 (s_odds T) T.rd hr (pe_glob rfl T.mg0 (v := .ref C0) rfl)) (pa_cons (pe_tup (pa_cons pe_int (pa_cons pe_int pa_nil))) pa_nil)) (by rfl))
      (pss_cons (ps_set (i := 3) sc39.nd rfl (Or.inl rfl) (pe_lst pa_nil))
      (pss_cons (ps_for PassesOwn.never rfl (pi_list (pe_g (g_sets T) hr rfl (pa_cons (pe_callB call_len_seq rfl T.flen PySem.boot_len (pa_cons (pv 0) pa_nil)) pa_nil))) (pg_name (i := 4) sc39.nd rfl (Or.inl rfl))
        (pss_cons (ps_asg (pe_g (g_chance T) hr rfl (pa_cons (pv 0) (pa_cons (pv 4) pa_nil))) (pg_tup rfl (pgs_cons (pg_name (i := 5) sc39.nd rfl (Or.inl rfl)) (pgs_cons (pg_name (i := 6) sc39.nd rfl (Or.inl rfl)) pgs_nil))))
        (pss_cons (ps_if (pt_cmpR (op_neA hr) (pe_g (g_lowest T) hr rfl (pa_cons (pv 5) (pa_cons (pv 6) pa_nil))) (pe_tup (pa_cons (pv 5) (pa_cons (pv 6) pa_nil))) (nomark _)) (pss_one (ps_ret pe_bl)) pss_nil)
        (pss_cons (ps_set (i := 2) sc39.nd rfl (Or.inl rfl) (pe_g (g_lowest T) hr rfl (pa_cons (pe_op op_add (pe_op op_mulW (pe_ix ix_tup (pv 2) pe_int (fun _ _ => rfl)) (pv 6)) (pe_op op_mulW (pv 5) (pe_ix ix_tup (pv 2) pe_int (fun _ _ => rfl))))
            (pa_cons (pe_op op_mulW (pe_ix ix_tup (pv 2) pe_int (fun _ _ => rfl)) (pv 6)) pa_nil))))
        (pss_one (ps_expr (pe_bm PySem.F.plainAttrs_list PySem.F.slot_list_append PySem.F.type_list_append mt_append (pv 3) (pa_cons (pe_tup (pa_cons (pe_tup (pa_cons (pv 5) (pa_cons (pv 6) pa_nil))) (pa_cons (pe_g (g_loss T) hr rfl (pa_cons (pv 1) (pa_cons (pv 0) (pa_cons (pv 4) pa_nil)))) pa_nil))) pa_nil))))))))
      (pss_cons (ps_for PassesOwn.never rfl (pi_list (pe_slice sl_list (pv 3) po_none (po_some pe_int))) (pg_name (i := 7) sc39.nd rfl (Or.inl rfl))
        (pss_one (ps_for PassesOwn.never rfl (pi_list (pv 3)) (pg_name (i := 8) sc39.nd rfl (Or.inl rfl))
          (pss_one (ps_if (pt_cmpR op_ne (pe_m (m_less T (abs3 T)) T.c3.cl hr (pv 1) (pa_cons (pe_ix ix_tup (pv 7) pe_int (fun _ _ => rfl)) (pa_cons (pe_ix ix_tup (pv 8) pe_int (fun _ _ => rfl)) pa_nil)))
            (pe_cmpR op_lt (pe_op op_mulW (pe_ix ix_tup (pe_ix ix_tup (pv 8) pe_int (fun _ _ => rfl)) pe_int (fun _ _ => rfl)) (pe_ix ix_tup (pe_ix ix_tup (pv 7) pe_int (fun _ _ => rfl)) pe_int (fun _ _ => rfl)))
              (pe_op op_mulW (pe_ix ix_tup (pe_ix ix_tup (pv 7) pe_int (fun _ _ => rfl)) pe_int (fun _ _ => rfl)) (pe_ix ix_tup (pe_ix ix_tup (pv 8) pe_int (fun _ _ => rfl)) pe_int (fun _ _ => rfl))) (nomark _)) (nomark _)) (pss_one (ps_ret pe_bl)) pss_nil)))))
      (pss_one (ps_ret (pe_cmpR (op_eqA hr) (pv 2) (pe_tup (pa_cons pe_int (pa_cons pe_int pa_nil))) (nomark _))))))), ?_⟩
    refine ⟨rfl, rfl, fun p H1 s1 hs => ⟨(by show 2 ≤ sizeLine; decide), fun tq htq => ⟨_, _, rfl, ?_⟩⟩⟩
    have s2 := s1.trans (Same.new (o := .tup [.int 0, .int 1]) htq)
    have hs2 := hs.mono (Same.new (o := .tup [.int 0, .int 1]) htq)
    have hq2 : (upd H1 tq (.tup [.int 0, .int 1])) tq = some (.tup [.int 0, .int 1]) := upd_same
    generalize upd H1 tq (.tup [.int 0, .int 1]) = H2 at s2 hs2 hq2
    refine ⟨Nat.zero_le _, fun R hR => ?_⟩
    have s3 := s2.trans (Same.new (o := .lst []) hR)
    have hR0 : H R = none := by
      cases e : H R with
      | none => rfl
      | some o =>
        rw [s2 _ _ e] at hR
        cases hR
    refine ⟨_, rfl, t, _, rfl, .inr (SqT.of (s3 _ _ ht)), l.length, ?_, h6, fun q rs H4 s4 hq hrs => ?_⟩
    · rw [hll]
    have s4' := s3.trans s4
    have hs4 := hs2.mono ((Same.new (o := .lst []) hR).trans s4)
    have hR4 : H4 R = some (.lst []) := s4 _ _ upd_same
    have hq4 : H4 tq = some (.tup [.int 0, .int 1]) := s4 _ _ (Same.new hR _ _ hq2)
    have hrl : rs.length = 2 ^ l.length := by rw [hrs.length, sets_len]
    have h64 : 2 ^ l.length ≤ 2 ^ 6 := Nat.pow_le_pow_right (by decide) h6
    have h1 : 1 ≤ 2 ^ l.length := Nat.one_le_two_pow
    have hqR : q ≠ R := fun e => by
      rw [e, hR4] at hq
      have e2 := HO.lst.inj (Option.some.inj hq)
      rw [← e2] at hrl
      have : (0 : Nat) = 2 ^ l.length := hrl
      omega
    have hok : ∀ x ∈ l, gOdd.ok 140 x := fun x hx => (odd_good (C3 := C3) (hw x hx)).1
    refine ⟨q, rfl, ⟨_, SqL.of hq⟩, for_list (K := K) (a := q) (xs := rs) (fun j σ H' => RStep R H4 H' ∧ ∃ (tq : Addr) (acc : List V) (v4 v5 v6 : Option V), σ = [some (.ref t), some (.ref p), some (.ref tq), some (.ref R), v4, v5, v6, none, none] ∧
        H' tq = some (.tup [.int (runQ l ((sets l.length).take j)).num, .int ((runQ l ((sets l.length).take j)).den : Int)]) ∧ H' R = some (.lst acc) ∧ RowsAt H' l acc ((sets l.length).take j) ∧ okQ (1 + 128 * j) (runQ l ((sets l.length).take j)))
      ⟨fun _ _ _ e => e, tq, [], none, none, none, rfl, hq4, hR4, .nil, okQ_0⟩ (fun j σ H' _ ⟨s', _⟩ => SqL.of (s' _ _ hqR hq)) ?_ ?_⟩
    · rintro j v σ H5 hv ⟨s5, tr, acc, v4, v5, v6, rfl, htr, hacc, hrows, hokr⟩
      obtain ⟨S, hS, u, rfl, hu⟩ := Paired.at_ (TupsAt.rstep hR4 s5 hrs) hv
      have hSm := List.mem_of_getElem? hS
      have hj : j < 2 ^ l.length := by
        have := (List.getElem?_eq_some_iff.mp hS).1
        rw [sets_len] at this
        exact this
      have hSl := sets_small _ S hSm
      have f5 := s5.full s4' hR0
      refine ⟨_, rfl, _, rfl, t, u, xs, l, S, rfl, f5 _ _ ht, Ams.mono f5 hl, hw, h6, hu, by omega, sets_lt _ S hSm, sets_asc _ S hSm, fun v H6 s6 hv6 => ?_⟩
      obtain ⟨cq, rfl, hcq⟩ := hv6
      have s5 := s5.same s6
      have htr := s6 _ _ htr
      have hacc := s6 _ _ hacc
      have hrows := RowsAt.mono s6 hrows
      have hu := s6 _ _ hu
      have hc := okQ_c (s := S) hw h6
      have cp := ch_pos l S
      have cn := num_pos_of cp
      have cd := den_pos' (chQ l S)
      have rn : 0 ≤ runQ l ((sets l.length).take j) := runQ_nonneg l _ 0 (by decide)
      have rnn := num_nonneg rn
      have rd := den_pos' (runQ l ((sets l.length).take j))
      have esn := runQ_snoc (l := l) hS
      have ok2 := add_okQ rn cp hokr hc
      have sm2 := add_small hokr hc
      have eq2 := add_qd (runQ l ((sets l.length).take j)) (chQ l S)
      have cdn : ((chQ l S).den : Int).natAbs < 2 ^ 127 := by rw [Int.natAbs_natCast]; exact hc.2
      have rdn : ((runQ l ((sets l.length).take j)).den : Int).natAbs < 2 ^ (1 + 128 * j) := by rw [Int.natAbs_natCast]; exact hokr.2
      have rnn2 := hokr.1
      generalize runQ l ((sets l.length).take j) = r at htr rn rnn rd esn ok2 sm2 eq2 rdn rnn2 hokr
      refine ⟨cq, _, rfl, SqT.of hcq, rfl, _, _, rfl, _, _, rfl, rfl, ?_⟩
      refine ⟨_, rfl, _, rfl, _, _, 127, rfl, by omega, cd, hc.1, cdn, by decide, fun a1 ha1 => ?_⟩
      refine ⟨_, rfl, _, rfl, (by show 2 ≤ sizeLine; decide), fun a2 ha2 => ⟨.t [(Rat.divInt (chQ l S).num ((chQ l S).den : Int)).num, ((Rat.divInt (chQ l S).num ((chQ l S).den : Int)).den : Int)], .t [(chQ l S).num, ((chQ l S).den : Int)], ⟨a1, rfl, Same.new ha2 _ _ upd_same⟩, ⟨a2, rfl, upd_same⟩, _, rfl, ?_⟩⟩
      rw [qd_self, decide_eq_true rfl]
      have s7 : Same H6 (upd (upd H6 a1 (.tup [.int (Rat.divInt (chQ l S).num ((chQ l S).den : Int)).num, .int ((Rat.divInt (chQ l S).num ((chQ l S).den : Int)).den : Int)])) a2 (.tup [.int (chQ l S).num, .int ((chQ l S).den : Int)])) := (Same.new ha1).trans (Same.new ha2)
      rw [qd_self] at s7
      generalize upd (upd H6 a1 (.tup [.int (chQ l S).num, .int ((chQ l S).den : Int)])) a2 (.tup [.int (chQ l S).num, .int ((chQ l S).den : Int)]) = H7 at s7 ⊢
      have s5 := s5.same s7
      have htr := s7 _ _ htr
      have hacc := s7 _ _ hacc
      have hrows := RowsAt.mono s7 hrows
      have hu := s7 _ _ hu
      refine iteF ?_
      -- the running total
      refine ⟨_, rfl, tr, _, _, _, rfl, rfl, SqT.of htr, atI_nat rfl, _, rfl, _, _, rfl, rfl, okQ_mulW rnn2 cdn (by omega), _, rfl, _, rfl, tr, _, _, _, rfl, rfl, SqT.of htr, atI_nat rfl, _, _, rfl, rfl, okQ_mulW hc.1 rdn (by omega), _, _, rfl, rfl,
        _, rfl, tr, _, _, _, rfl, rfl, SqT.of htr, atI_nat rfl, _, rfl, _, _, rfl, rfl, okQ_mulW rdn cdn (by omega), ?_⟩
      refine ⟨_, _, 1 + 128 * j + 128, rfl, Int.add_nonneg (Int.mul_nonneg rnn (by omega)) (Int.mul_nonneg (by omega) (by omega)), Int.mul_pos rd cd, sm2.1, sm2.2, by omega, fun b hb => ?_⟩
      rw [eq2]
      have s8 : Same H7 (upd H7 b (.tup [.int (r + chQ l S).num, .int ((r + chQ l S).den : Int)])) := Same.new hb
      have hb8 : (upd H7 b (.tup [.int (r + chQ l S).num, .int ((r + chQ l S).den : Int)])) b = some (.tup [.int (r + chQ l S).num, .int ((r + chQ l S).den : Int)]) := upd_same
      generalize upd H7 b (.tup [.int (r + chQ l S).num, .int ((r + chQ l S).den : Int)]) = H8 at s8 hb8 ⊢
      -- rows.append
      have s8' := s5.same s8
      refine ⟨_, rfl, .inl ⟨rfl, _, SqL.of (s8 _ _ hacc)⟩, _, rfl, _, rfl, (by show 2 ≤ sizeLine; decide), fun y hy => ?_⟩
      have s9 : Same H8 (upd H8 y (.tup [.int (chQ l S).num, .int ((chQ l S).den : Int)])) := Same.new hy
      have hy9 : (upd H8 y (.tup [.int (chQ l S).num, .int ((chQ l S).den : Int)])) y = some (.tup [.int (chQ l S).num, .int ((chQ l S).den : Int)]) := upd_same
      generalize upd H8 y (.tup [.int (chQ l S).num, .int ((chQ l S).den : Int)]) = H9 at s9 hy9 ⊢
      have s9' := s8'.same s9
      have f9 := s9'.full s4' hR0
      refine ⟨_, rfl, _, rfl, _, rfl, p, t, u, xs, l, S, rfl, hs4.rstep hR4 s9', f9 _ _ ht, Ams.mono f9 hl, s9 _ _ (s8 _ _ hu), hok, h6, fun lv H10 s10 hlv => ⟨(by show 2 ≤ sizeLine; decide), fun x hx => ?_⟩⟩
      have s11 : Same H10 (upd H10 x (.tup [.ref y, lv])) := Same.new hx
      have s8_11 := (s8.trans (s9.trans s10)).trans s11
      have hR11 := s8_11 _ _ hacc
      refine ⟨R, acc, _, rfl, rfl, hR11, ?_, ((s9'.same s10).same s11).set, b, _, _, _, _, rfl, ?_, upd_same, ?_, ?_⟩
      · rw [hrows.length, List.length_take]
        exact small1000 (by omega)
      · rw [esn]
        have hb11 := (s9.trans (s10.trans s11)) _ _ hb8
        rw [upd_ne (fun z => by rw [z, hR11] at hb11; cases hb11)]
        exact hb11
      · rw [take_snoc hS]
        refine (RowsAt.keep hR11 (RowsAt.mono s8_11 hrows)).snoc (RowAt.keep hR11 ⟨x, y, lv, rfl, upd_same, s11 _ _ (s10 _ _ hy9), hlv.mono s11⟩)
      · rw [esn, show 1 + 128 * (j + 1) = 1 + 128 * j + 128 by omega]
        exact ok2
    · rintro σ H5 ⟨s5, tr, acc, v4, v5, v6, rfl, htr, hacc, hrows, hokr⟩
      rw [hrl, List.take_of_length_le (by rw [sets_len]; exact Nat.le_refl _), runQ_all] at htr
      rw [hrl, List.take_of_length_le (by rw [sets_len]; exact Nat.le_refl _)] at hrows
      have f5 := s5.full s4' hR0
      have hs5 := hs4.rstep hR4 s5
      have okl : ∀ S : List Int, gOdd.ok 3000 (gOdd.sum (keepL l S l.length)) := fun S => by
        obtain ⟨k1, k2⟩ := keep_mem l S l.length
        exact gOdd.ok_mono _ _ _ (by omega) (Grp.ok_sum (s := 140) fun y hy => hok y (k1 y hy))
      refine ⟨_, rfl, _, rfl, R, acc, rfl, SqL.of hacc, fun Z hZ => ?_⟩
      have s6 := Same.new (H := H5) (o := .lst (cutV acc none (some 20))) hZ
      refine ⟨Z, rfl, ⟨_, SqL.of upd_same⟩, for_list (K := K) (a := Z) (xs := cutV acc none (some 20)) (fun i σ H' => Same (upd H5 Z (.lst (cutV acc none (some 20)))) H' ∧ ∃ (v7 v8 : Option V), σ = [some (.ref t), some (.ref p), some (.ref tr), some (.ref R), v4, v5, v6, v7, v8])
        ⟨Same.refl _, none, none, rfl⟩ (fun i σ H' _ ⟨s', _⟩ => SqL.of (s' _ _ upd_same)) ?_ ?_⟩
      · rintro i v σ H6 hv ⟨s7, v7, v8, rfl⟩
        have s57 := s6.trans s7
        have hmem : v ∈ acc := List.mem_of_mem_drop (List.mem_of_mem_take (List.mem_of_getElem? hv))
        obtain ⟨i1, hi1⟩ := List.getElem?_of_mem hmem
        obtain ⟨S1, hS1, x1, y1, l1, rfl, hx1, hy1, hl1⟩ := Paired.at_ (RowsAt.mono s57 hrows) hi1
        refine ⟨_, rfl, R, rfl, ⟨_, SqL.of (s57 _ _ hacc)⟩, for_list (K := K) (a := R) (xs := acc) (fun i σ H' => Same H6 H' ∧ ∃ (v8 : Option V), σ = [some (.ref t), some (.ref p), some (.ref tr), some (.ref R), v4, v5, v6, some (.ref x1), v8])
          ⟨Same.refl _, v8, rfl⟩ (fun i σ H' _ ⟨s', _⟩ => SqL.of (s' _ _ (s57 _ _ hacc))) ?_ ?_⟩
        · rintro i2 v2 σ H7 hv2 ⟨s8, v8, rfl⟩
          have s58 := s57.trans s8
          obtain ⟨S2, hS2, x2, y2, l2, rfl, hx2, hy2, hl2⟩ := Paired.at_ (RowsAt.mono s58 hrows) hv2
          have hx1 := s8 _ _ hx1
          have hy1 := s8 _ _ hy1
          have hl1 := hl1.mono s8
          obtain ⟨dx, fs, g1, g2⟩ := sc_recv (m := "is_less") (hs5.mono s58) (by decide +kernel)
          refine ⟨_, rfl, p, dx, fs, rfl, g1, g2, _, rfl, x1, _, _, _, rfl, rfl, SqT.of hx1, atI_nat (j := 1) rfl, _, rfl, x2, _, _, _, rfl, rfl, SqT.of hx2, atI_nat (j := 1) rfl,
            p, l1, l2, _, _, rfl, hs5.mono s58, hl1, hl2, okl S1, okl S2, fun H8 s9 => ?_⟩
          have hx1 := s9 _ _ hx1
          have hy1 := s9 _ _ hy1
          have hx2 := s9 _ _ hx2
          have hy2 := s9 _ _ hy2
          have c1 := okQ_c (s := S1) hw h6
          have c2 := okQ_c (s := S2) hw h6
          have d1 : ((chQ l S1).den : Int).natAbs < 2 ^ 127 := by rw [Int.natAbs_natCast]; exact c1.2
          have d2 : ((chQ l S2).den : Int).natAbs < 2 ^ 127 := by rw [Int.natAbs_natCast]; exact c2.2
          refine ⟨_, rfl, x2, _, _, _, rfl, rfl, SqT.of hx2, atI_nat (j := 0) rfl, y2, _, _, _, rfl, rfl, SqT.of hy2, atI_nat (j := 0) rfl, _, rfl, x1, _, _, _, rfl, rfl, SqT.of hx1, atI_nat (j := 0) rfl, y1, _, _, _, rfl, rfl, SqT.of hy1, atI_nat (j := 1) rfl, _, _, rfl, rfl, okQ_mulW c2.1 d1 (by decide), ?_⟩
          refine ⟨_, rfl, x1, _, _, _, rfl, rfl, SqT.of hx1, atI_nat (j := 0) rfl, y1, _, _, _, rfl, rfl, SqT.of hy1, atI_nat (j := 0) rfl, _, rfl, x2, _, _, _, rfl, rfl, SqT.of hx2, atI_nat (j := 0) rfl, y2, _, _, _, rfl, rfl, SqT.of hy2, atI_nat (j := 1) rfl, _, _, rfl, rfl, okQ_mulW c1.1 d2 (by decide), ?_⟩
          refine ⟨_, _, rfl, rfl, rfl, _, rfl, ?_⟩
          rw [decide_eq_true (congrArg V.bl (less_row (l := l) (s := S1) (t := S2)))]
          exact iteF ⟨s8.trans s9, _, rfl⟩
        · rintro σ H7 ⟨s8, v8, rfl⟩
          exact ⟨s7.trans s8, _, _, rfl⟩
      · rintro σ H6 ⟨s7, v7, v8, rfl⟩
        have s57 := s6.trans s7
        refine ⟨_, rfl, (by show 2 ≤ sizeLine; decide), fun z hz => ⟨.t [1, 1], .t [1, 1], ⟨tr, rfl, Same.new hz _ _ (s57 _ _ htr)⟩, ⟨z, rfl, upd_same⟩, ?_⟩⟩
        rw [decide_eq_true rfl]
        exact k _ (f5.trans (s57.trans (Same.new hz)))
end
end Mo

set_option Elab.async false
set_option linter.all false
set_option maxHeartbeats 4000000
/-! The mathematics of the powers: powers of two are ordered and summed as their exponents are. -/
namespace Mo
open PySem PySem.Spec PyProof.Rows L2
def two : QP := ⟨2, by decide⟩
def up : Nat → QP
  | 0 => gOdd.zero
  | k + 1 => gOdd.add (up k) two
def dn : Nat → QP
  | 0 => gOdd.zero
  | k + 1 => gOdd.add (dn k) (gOdd.neg two)
def pw (n : Int) : QP := if n > 0 then up n.natAbs else dn n.natAbs
theorem two_pos : gOdd.lt gOdd.zero two = true := by
  show decide ((1 : Rat) < 2) = true
  decide
theorem pw_0 : pw 0 = gOdd.zero := rfl
theorem pw_nat (k : Nat) : pw (k : Int) = up k := by
  unfold pw
  cases k with
  | zero => rfl
  | succ k =>
    rw [if_pos (by omega)]
    rfl
theorem pw_neg (k : Nat) : pw (-(k : Int)) = dn k := by
  unfold pw
  rw [if_neg (by omega), Int.natAbs_neg, Int.natAbs_natCast]
theorem pw_succ (n : Int) : pw (n + 1) = gOdd.add (pw n) two := by
  by_cases h : 0 ≤ n
  · obtain ⟨k, rfl⟩ := Int.eq_ofNat_of_zero_le h
    have e : (k : Int) + 1 = ((k + 1 : Nat) : Int) := rfl
    rw [e, pw_nat, pw_nat]
    rfl
  · obtain ⟨k, hk⟩ := Int.eq_ofNat_of_zero_le (show 0 ≤ -(n + 1) by omega)
    have e1 : n + 1 = -(k : Int) := by omega
    have e2 : n = -((k + 1 : Nat) : Int) := by omega
    rw [e1, pw_neg]
    rw [e2, pw_neg]
    exact (Grp.sub_add (G := gOdd) (dn k) two).symm
theorem pw_addN (a : Int) : ∀ k : Nat, pw (a + (k : Int)) = gOdd.add (pw a) (pw (k : Int))
  | 0 => by
    have e : a + ((0 : Nat) : Int) = a := by omega
    rw [e]
    exact (gOdd.addz (pw a)).symm
  | k + 1 => by
    have e : a + ((k + 1 : Nat) : Int) = (a + (k : Int)) + 1 := by omega
    have e2 : ((k + 1 : Nat) : Int) = (k : Int) + 1 := rfl
    rw [e, pw_succ, pw_addN a k, e2, pw_succ]
    exact gOdd.assoc _ _ _
theorem pw_add (a b : Int) : pw (a + b) = gOdd.add (pw a) (pw b) := by
  by_cases h : 0 ≤ b
  · obtain ⟨k, rfl⟩ := Int.eq_ofNat_of_zero_le h
    exact pw_addN a k
  · obtain ⟨k, hk⟩ := Int.eq_ofNat_of_zero_le (show 0 ≤ -b by omega)
    have e : b = -(k : Int) := by omega
    subst e
    have e1 := pw_addN (a + -(k : Int)) k
    have e2 := pw_addN (-(k : Int)) k
    rw [show a + -(k : Int) + (k : Int) = a by omega] at e1
    rw [show -(k : Int) + (k : Int) = 0 by omega, pw_0] at e2
    rw [e1]
    have e3 := gOdd.assoc (pw (a + -(k : Int))) (pw (k : Int)) (pw (-(k : Int)))
    have e4 := gOdd.comm (pw (-(k : Int))) (pw (k : Int))
    exact (e3.trans ((congrArg (gOdd.add (pw (a + -(k : Int)))) (e4.symm.trans e2.symm)).trans (gOdd.addz _))).symm
theorem pw_ltN (a : Int) : ∀ k : Nat, gOdd.lt (pw a) (pw (a + ((k + 1 : Nat) : Int))) = true
  | 0 => by
    have e : a + ((0 + 1 : Nat) : Int) = a + 1 := by omega
    rw [e, pw_succ]
    exact Grp.add_lt (G := gOdd) _ _ two_pos
  | k + 1 => by
    have e : a + ((k + 1 + 1 : Nat) : Int) = (a + ((k + 1 : Nat) : Int)) + 1 := by omega
    rw [e, pw_succ]
    exact gOdd.trans _ _ _ (pw_ltN a k) (Grp.add_lt (G := gOdd) _ _ two_pos)
theorem pw_lt1 {a b : Int} (h : a < b) : gOdd.lt (pw a) (pw b) = true := by
  obtain ⟨k, hk⟩ := Int.eq_ofNat_of_zero_le (show 0 ≤ b - a - 1 by omega)
  have e : b = a + ((k + 1 : Nat) : Int) := by omega
  rw [e]
  exact pw_ltN a k
theorem pw_lt (a b : Int) : gOdd.lt (pw a) (pw b) = decide (a < b) := by
  by_cases h : a < b
  · rw [pw_lt1 h, decide_eq_true h]
  · rw [decide_eq_false h]
    by_cases e : a = b
    · rw [e]
      exact gOdd.irr _
    · exact Grp.asym (G := gOdd) _ _ (pw_lt1 (show b < a by omega))
theorem pw_sum (ns : List Int) : gOdd.sum (ns.map pw) = pw (gSum.sum ns) := by
  induction ns with
  | nil => rfl
  | cons n r ih =>
    rw [List.map_cons]
    have e1 := Grp.sum_cons (G := gOdd) (pw n) (r.map pw)
    have e2 := Grp.sum_cons (G := gSum) n r
    rw [e2]
    refine e1.trans ?_
    rw [ih]
    exact (pw_add n (gSum.sum r)).symm
theorem pw_sg (n : Int) : sgI gOdd (pw n) = sgI gSum n := by
  unfold sgI
  have e1 : gOdd.lt (pw n) gOdd.zero = gSum.lt n gSum.zero := by
    rw [← pw_0, pw_lt]
  rw [e1]
  by_cases h : n = 0
  · rw [if_pos (show gSum.am n = gSum.am gSum.zero by rw [h]), if_pos (show gOdd.am (pw n) = gOdd.am gOdd.zero by rw [h, pw_0])]
  · rw [if_neg (fun e => h (gSum.inj _ _ e)), if_neg]
    intro e
    have e := gOdd.inj _ _ e
    rw [← pw_0] at e
    rcases Int.lt_or_lt_of_ne h with z | z
    · have := pw_lt1 z
      rw [e, gOdd.irr] at this
      cases this
    · have := pw_lt1 z
      rw [e, gOdd.irr] at this
      cases this
/-- one class -/
def wr (n : Int) : { l : List Int // l.length = 1 } := ⟨[n], rfl⟩
abbrev g1 : Grp := gCls 1 (by decide)
theorem wr_lt (a b : Int) : g1.lt (wr a) (wr b) = decide (a < b) := by
  show (if a = b then lx [] [] else decide (a < b)) = decide (a < b)
  by_cases e : a = b
  · rw [if_pos e, decide_eq_false (by omega)]
    rfl
  · rw [if_neg e]
theorem wr_sum (ns : List Int) : g1.sum (ns.map wr) = wr (gSum.sum ns) := by
  induction ns with
  | nil => rfl
  | cons n r ih =>
    rw [List.map_cons]
    have e1 := Grp.sum_cons (G := g1) (wr n) (r.map wr)
    have e2 := Grp.sum_cons (G := gSum) n r
    rw [e2]
    refine e1.trans ?_
    rw [ih]
    rfl
theorem getD_map {β : Type} (f : Int → β) (z : β) (hz : f 0 = z) (ns : List Int) (i : Nat) : (ns.map f).getD i z = f (ns.getD i 0) := by
  rw [List.getD_eq_getElem?_getD, List.getD_eq_getElem?_getD, List.getElem?_map]
  cases ns[i]? with
  | none => exact hz.symm
  | some x => rfl
theorem fI_pw (ns : List Int) : fI gOdd (ns.map pw) = fI gSum ns := by
  funext x y
  show gOdd.lt ((ns.map pw).getD x.toNat gOdd.zero) ((ns.map pw).getD y.toNat gOdd.zero) = decide (ns.getD x.toNat 0 < ns.getD y.toNat 0)
  rw [getD_map pw _ pw_0, getD_map pw _ pw_0, pw_lt]
theorem fI_wr (ns : List Int) : fI g1 (ns.map wr) = fI gSum ns := by
  funext x y
  show g1.lt ((ns.map wr).getD x.toNat g1.zero) ((ns.map wr).getD y.toNat g1.zero) = decide (ns.getD x.toNat 0 < ns.getD y.toNat 0)
  have e : ∀ i, (ns.map wr).getD i g1.zero = wr (ns.getD i 0) := fun i => getD_map wr g1.zero rfl ns i
  exact (congr (congrArg g1.lt (e x.toNat)) (e y.toNat)).trans (wr_lt _ _)
theorem two_ok : gOdd.ok 2 two := by
  show okQ 2 2
  exact ⟨by decide, by decide⟩
theorem up_ok : ∀ k, gOdd.ok (1 + 2 * k) (up k)
  | 0 => gOdd.ok_zero
  | k + 1 => by
    have := gOdd.ok_add _ _ _ _ (up_ok k) two_ok
    exact gOdd.ok_mono _ _ _ (by omega) this
theorem dn_ok : ∀ k, gOdd.ok (1 + 2 * k) (dn k)
  | 0 => gOdd.ok_zero
  | k + 1 => by
    have := gOdd.ok_add _ _ _ _ (dn_ok k) (gOdd.ok_neg _ _ two_ok)
    exact gOdd.ok_mono _ _ _ (by omega) this
theorem pw_ok {n : Int} (h : n.natAbs ≤ 20) : gOdd.ok 140 (pw n) := by
  unfold pw
  by_cases p : n > 0
  · rw [if_pos p]
    exact gOdd.ok_mono _ _ _ (by omega) (up_ok _)
  · rw [if_neg p]
    exact gOdd.ok_mono _ _ _ (by omega) (dn_ok _)
end Mo

set_option Elab.async false
set_option linter.all false
set_option maxRecDepth 100000
set_option maxHeartbeats 4000000
namespace Mo
open PySem PySem.Spec PyProof.Rows L2
/-! ### _law_powers_right -/
theorem ScAt.keep {D : Kd} {H : Hp} {R p : Addr} {acc : List V} {o : HO} (hR : H R = some (.lst acc)) (h : ScAt D H p) : ScAt D (upd H R o) p := by
  obtain ⟨dx, z, o', h1, h2⟩ := h
  exact ⟨dx, z, o', by rw [upd_ne (fun z => by rw [z, hR] at h1; cases h1)]; exact h1, h2.keep hR⟩
structure Sc3 (C1 C2 C3 : Addr) (H : Hp) (s1 s2 s3 : Addr) : Prop where
  a : ScAt (dSum C1) H s1
  b : ScAt (dOdd C3) H s2
  c : ScAt (dCls C2 1 (by decide)) H s3
theorem Sc3.mono {C1 C2 C3 : Addr} {H H' : Hp} {s1 s2 s3 : Addr} (s : Same H H') (h : Sc3 C1 C2 C3 H s1 s2 s3) : Sc3 C1 C2 C3 H' s1 s2 s3 := ⟨h.a.mono s, h.b.mono s, h.c.mono s⟩
theorem Sc3.step {C1 C2 C3 d : Addr} {H H' : Hp} {s1 s2 s3 : Addr} (s : DStep d H H') (h0 : DiceAt H d) (h : Sc3 C1 C2 C3 H s1 s2 s3) : Sc3 C1 C2 C3 H' s1 s2 s3 := ⟨h.a.step s h0, h.b.step s h0, h.c.step s h0⟩
theorem Sc3.keep {C1 C2 C3 R : Addr} {H : Hp} {acc : List V} {o : HO} {s1 s2 s3 : Addr} (hR : H R = some (.lst acc)) (h : Sc3 C1 C2 C3 H s1 s2 s3) : Sc3 C1 C2 C3 (upd H R o) s1 s2 s3 := ⟨h.a.keep hR, h.b.keep hR, h.c.keep hR⟩
theorem ams_sums (H : Hp) : ∀ ns : List Int, Ams gSum H (ns.map V.int) ns
  | [] => .nil
  | n :: r => .cons rfl (ams_sums H r)
def spPowers : Sp := fun vs H Q _ => ∃ d, vs = [.ref d] ∧ DiceAt H d ∧ ∀ H', DStep d H H' → Q (.bl true) H'
/-- what the power is after k turns -/
def pwK (n : Int) (k : Nat) : QP := if n > 0 then up k else dn k
theorem pwK_ok {n : Int} {k : Nat} (h : k ≤ 20) : gOdd.ok 140 (pwK n k) := by
  unfold pwK
  by_cases p : n > 0
  · rw [if_pos p]
    exact gOdd.ok_mono _ _ _ (by omega) (up_ok _)
  · rw [if_neg p]
    exact gOdd.ok_mono _ _ _ (by omega) (dn_ok _)
theorem pwK_up {n : Int} {k : Nat} (h : n > 0) : gOdd.sum [pwK n k, two] = pwK n (k + 1) := by
  have e : ∀ j, pwK n j = up j := fun j => if_pos h
  rw [e, e]
  exact Grp.sum_two (G := gOdd) _ _
theorem pwK_dn {n : Int} {k : Nat} (h : ¬ n > 0) : gOdd.add (pwK n k) (gOdd.neg two) = pwK n (k + 1) := by
  have e : ∀ j, pwK n j = dn j := fun j => if_neg h
  rw [e, e]
  rfl
/-- what stands after the loops -/
structure PFa (C1 C2 C3 d : Addr) (H0 H : Hp) (s1 s2 s3 N M W : Addr) (ns : List Int) (am aw : List V) : Prop where
  st : DStep d H0 H
  sc : Sc3 C1 C2 C3 H s1 s2 s3
  n : H N = some (.lst (ns.map V.int))
  m : H M = some (.lst am)
  ma : Ams gOdd H am (ns.map pw)
  w : H W = some (.lst aw)
  wa : Ams g1 H aw (ns.map wr)
theorem PFa.mono {C1 C2 C3 d : Addr} {H0 H H' : Hp} {s1 s2 s3 N M W : Addr} {ns : List Int} {am aw : List V} (s : Same H H') (h : PFa C1 C2 C3 d H0 H s1 s2 s3 N M W ns am aw) : PFa C1 C2 C3 d H0 H' s1 s2 s3 N M W ns am aw :=
  ⟨h.st.same s, h.sc.mono s, s _ _ h.n, s _ _ h.m, Ams.mono s h.ma, s _ _ h.w, Ams.mono s h.wa⟩
section
variable {P : Program} {w : World} {K : PySem.W.Frag} {mg : Str → Option Value} {base : Heap} {C0 C1 C2 C3 : Addr} {D : Kd}
theorem sc40 : FnScope ["_law_dice_here", "_law_sums", "_law_odds", "_law_classes", "_law_numbers", "_law_turn", "_law_powers", "_law_number", "_law_power", "_law_wrapped", "_law_total", "_law_told"] ["_law_dice_here"] (defScope (top 40)) := ⟨rfl, rfl, rfl, by decide +kernel, rfl, by decide +kernel, by decide +kernel⟩
theorem g_powers (T : Txt K mg C0 C1 C2 C3) : Gf P w K mg base 9 "_law_powers_right" spPowers := by
  refine gf_of T.d_law_powers_right sc40 (fun vs H Q E h => ?_) (fun _ _ _ _ _ _ us hl => match us, hl with | [_], _ => rfl) fun f cdv A outer s H vs Q E hr h => ?_
  · obtain ⟨d, rfl, _⟩ := h
    rfl
  · obtain ⟨d, rfl, h0, k⟩ := h
    have B1 := abs1 (P := P) (w := w) (base := base) T
    have B2 := abs2 (P := P) (w := w) (base := base) T 1 (by decide)
    have B3 := abs3 (P := P) (w := w) (base := base) T
    refine ⟨_, pss_cons (ps_asg (pe_tup (pa_cons (pe_s0 (s_sums T) T.rd hr (pe_glob rfl T.mg0 (v := .ref C0) rfl)) (pa_cons (pe_s0 (s_odds T) T.rd hr (pe_glob rfl T.mg0 (v := .ref C0) rfl))
          (pa_cons (pe_s (s_classes T 1 (by decide) (by decide)) T.rd hr (pe_glob rfl T.mg0 (v := .ref C0) rfl) (pa_cons pe_int pa_nil)) (pa_cons (pe_lst pa_nil) pa_nil)))))
        (pg_tup rfl (pgs_cons (pg_name (i := 1) sc40.nd rfl (Or.inl rfl)) (pgs_cons (pg_name (i := 2) sc40.nd rfl (Or.inl rfl)) (pgs_cons (pg_name (i := 3) sc40.nd rfl (Or.inl rfl)) (pgs_cons (pg_name (i := 4) sc40.nd rfl (Or.inl rfl)) pgs_nil))))))
      (pss_cons (ps_for PassesOwn.never rfl (pi_range1 rfl T.frange (pa_cons pe_int pa_nil)) (pg_name (i := 5) sc40.nd rfl (Or.inl rfl))
        (pss_one (ps_expr (pe_bm PySem.F.plainAttrs_list PySem.F.slot_list_append PySem.F.type_list_append mt_append (pv 4) (pa_cons (pe_op op_sub (pe_g (g_pull T) hr rfl (pa_cons (pv 0) (pa_cons pe_int pa_nil))) pe_int) pa_nil)))))
      (pss_cons (ps_set (i := 6) sc40.nd rfl (Or.inl rfl) (pe_lst pa_nil))
      (pss_cons (ps_for PassesOwn.never rfl (pi_list (pv 4)) (pg_name (i := 7) sc40.nd rfl (Or.inl rfl))
        (pss_cons (ps_set (i := 8) sc40.nd rfl (Or.inl rfl) (pe_tup (pa_cons pe_int (pa_cons pe_int pa_nil))))
        (pss_cons (ps_for PassesOwn.never rfl (pi_range1 rfl T.frange (pa_cons (pe_callB call_abs rfl T.fabs boot_abs (pa_cons (pv 7) pa_nil)) pa_nil)) (pg_name (i := 5) sc40.nd rfl (Or.inl rfl))
          (pss_one (ps_set (i := 8) sc40.nd rfl (Or.inl rfl) (pe_ifExp (pt_cmpR op_gt (pv 7) pe_int (nomark _)) (pe_m (m_plus T B3) T.c3.cl hr (pv 2) (pa_cons (pv 8) (pa_cons (pe_tup (pa_cons pe_int (pa_cons pe_int pa_nil))) pa_nil)))
            (pe_m (m_minus T B3) T.c3.cl hr (pv 2) (pa_cons (pv 8) (pa_cons (pe_tup (pa_cons pe_int (pa_cons pe_int pa_nil))) pa_nil)))))))
        (pss_one (ps_expr (pe_bm PySem.F.plainAttrs_list PySem.F.slot_list_append PySem.F.type_list_append mt_append (pv 6) (pa_cons (pv 8) pa_nil)))))))
      (pss_cons (ps_setLc (i := 9) (own := [("_law_number", 7)]) (g := gName 7) (tt := tYes) (te := tTup (tCons (tVar 7) tNil)) rfl sc40.nd rfl rfl (sw_true rfl rfl (by decide) (by decide +kernel)) (pi_list (pv 4))
            (blkOk_by (own := [("_law_number", 7)]) (N := ["_law_dice_here", "_law_sums", "_law_odds", "_law_classes", "_law_numbers", "_law_turn", "_law_powers", "_law_number", "_law_power", "_law_wrapped", "_law_total", "_law_told"]) (sc := defScope (top 40)) (by decide +kernel))
            (fun _ _ _ _ _ => pg_name (i := 7) sc40.nd rfl (Or.inl rfl)) (fun _ _ _ _ _ => pts_nil) (fun _ _ _ _ _ => pe_tup (pa_cons (pv 7) pa_nil)))
      (pss_cons (ps_if (pt_cmpR (op_neA hr) (pe_m (m_ranked T B1) T.c1.cl hr (pv 1) (pa_cons (pe_callTy call_tuple_of rfl T.ftuple boot_tuple (pa_cons (pv 4) pa_nil)) pa_nil)) (pe_m (m_ranked T B3) T.c3.cl hr (pv 2) (pa_cons (pe_callTy call_tuple_of rfl T.ftuple boot_tuple (pa_cons (pv 6) pa_nil)) pa_nil)) (nomark _)) (pss_one (ps_ret pe_bl)) pss_nil)
      (pss_cons (ps_if (pt_cmpR (op_neA hr) (pe_m (m_ranked T B1) T.c1.cl hr (pv 1) (pa_cons (pe_callTy call_tuple_of rfl T.ftuple boot_tuple (pa_cons (pv 4) pa_nil)) pa_nil)) (pe_m (m_ranked T B2) T.c2.cl hr (pv 3) (pa_cons (pe_callTy call_tuple_of rfl T.ftuple boot_tuple (pa_cons (pv 9) pa_nil)) pa_nil)) (nomark _)) (pss_one (ps_ret pe_bl)) pss_nil)
      (pss_cons (ps_set (i := 10) sc40.nd rfl (Or.inl rfl) (pe_m (m_plusA T B1) T.c1.cl hr (pv 1) (pa_cons (pe_callTy call_tuple_of rfl T.ftuple boot_tuple (pa_cons (pv 4) pa_nil)) pa_nil)))
      (pss_cons (ps_set (i := 11) sc40.nd rfl (Or.inl rfl) (pe_lst (pa_cons (pe_m (m_sign T B3) T.c3.cl hr (pv 2) (pa_cons (pe_m (m_plusA T B3) T.c3.cl hr (pv 2) (pa_cons (pe_callTy call_tuple_of rfl T.ftuple boot_tuple (pa_cons (pv 6) pa_nil)) pa_nil)) pa_nil))
          (pa_cons (pe_m (m_plusA T B2) T.c2.cl hr (pv 3) (pa_cons (pe_callTy call_tuple_of rfl T.ftuple boot_tuple (pa_cons (pv 9) pa_nil)) pa_nil)) pa_nil))))
      (pss_one (ps_ret (pe_cmpR (op_eqD hr.units) (pv 11) (pe_lst (pa_cons (pe_m (m_sign T B1) T.c1.cl hr (pv 1) (pa_cons (pv 10) pa_nil)) (pa_cons (pe_tup (pa_cons (pv 10) pa_nil)) pa_nil))) (nomark _)))))))))))), ?_⟩
    -- the three scales, the list of the numbers
    refine ⟨rfl, rfl, fun s1 H1 a1 hs1 => ⟨rfl, rfl, fun s2 H2 a2 hs2 => ⟨rfl, rfl, fun s3 H3 a3 hs3 => ⟨Nat.zero_le _, fun N hN => ⟨(by show 4 ≤ sizeLine; decide), fun tp htp => ⟨tp, _, rfl, SqT.of upd_same, rfl, _, _, rfl, _, _, rfl, _, _, rfl, _, _, rfl, rfl, ?_⟩⟩⟩⟩⟩⟩
    have sN := (a1.trans (a2.trans a3)).trans ((Same.new (o := .lst []) hN).trans (Same.new (o := .tup [.ref s1, .ref s2, .ref s3, .ref N]) htp))
    have S0 : Sc3 C1 C2 C3 (upd (upd H3 N (.lst [])) tp (.tup [.ref s1, .ref s2, .ref s3, .ref N])) s1 s2 s3 := Sc3.mono ((Same.new (o := .lst []) hN).trans (Same.new (o := .tup [.ref s1, .ref s2, .ref s3, .ref N]) htp)) ⟨hs1.mono (a2.trans a3), hs2.mono a3, hs3⟩
    have hN0 : (upd (upd H3 N (.lst [])) tp (.tup [.ref s1, .ref s2, .ref s3, .ref N])) N = some (.lst []) := Same.new htp _ _ upd_same
    generalize upd (upd H3 N (.lst [])) tp (.tup [.ref s1, .ref s2, .ref s3, .ref N]) = H4 at sN S0 hN0
    have dN : DStep d H H4 := DStep.of h0 sN
    have hNone : H N = none := by
      cases e : H N with
      | none => rfl
      | some o =>
        rw [(a1.trans (a2.trans a3)) _ _ e] at hN
        cases hN
    have nN : N ≠ d := fun z => by
      obtain ⟨x, y, u, e⟩ := h0
      rw [← z, hNone] at e
      cases e
    refine ⟨4, rfl, by decide, by decide, for_range (lo := 0) (n := (4 : Int).toNat) (fun i σ H' => DStep d H H' ∧ Sc3 C1 C2 C3 H' s1 s2 s3 ∧ ∃ (ns : List Int) (v : Option V), σ = [some (.ref d), some (.ref s1), some (.ref s2), some (.ref s3), some (.ref N), v, none, none, none, none, none, none] ∧
        ns.length = i ∧ (∀ x ∈ ns, x.natAbs ≤ 20) ∧ H' N = some (.lst (ns.map V.int))) ⟨dN, S0, [], none, rfl, rfl, (fun x h => by cases h), hN0⟩ ?_ ?_⟩
    · rintro i σ H5 hi ⟨d5, S5, ns, v, rfl, hn, hsm, hN5⟩
      refine ⟨_, rfl, .inl ⟨rfl, _, SqL.of hN5⟩, _, rfl, d, 40, rfl, d5.2, by decide, by decide, fun r H6 r0 r1 s6 => ?_⟩
      have hN6 := s6.1 _ _ hN5 nN
      refine ⟨_, _, rfl, rfl, N, _, _, rfl, rfl, hN6, ?_, (d5.trans s6).set h0 hNone, Sc3.keep hN6 (S5.step s6 d5.2), ns ++ [r - 20], _, rfl, ?_, ?_, ?_⟩
      · rw [List.length_map]
        exact small1000 (by have : i < 4 := hi; omega)
      · rw [List.length_append, hn]
        rfl
      · intro x hx
        rcases List.mem_append.mp hx with z | z
        · exact hsm x z
        · rw [List.mem_singleton.mp z]
          omega
      · rw [upd_same, List.map_append]
        rfl
    rintro σ H5 ⟨d5, S5, ns, v, rfl, hn, hsm, hN5⟩
    have hn : ns.length = 4 := hn
    -- the powers
    refine ⟨Nat.zero_le _, fun M hM => ?_⟩
    have hMN : M ≠ N := fun z => by rw [z, hN5] at hM; cases hM
    have hMd : M ≠ d := fun z => by
      obtain ⟨x, y, u, e⟩ := d5.2
      rw [z, e] at hM
      cases hM
    have hMnone : H M = none := d5.free h0 hM
    refine ⟨_, rfl, N, rfl, ⟨_, SqL.of (Same.new hM _ _ hN5)⟩, for_list (K := K) (a := N) (xs := ns.map V.int) (fun i σ H' => DStep d H H' ∧ Sc3 C1 C2 C3 H' s1 s2 s3 ∧ H' N = some (.lst (ns.map V.int)) ∧ ∃ (acc : List V) (v5 v7 v8 : Option V),
        σ = [some (.ref d), some (.ref s1), some (.ref s2), some (.ref s3), some (.ref N), v5, some (.ref M), v7, v8, none, none, none] ∧ H' M = some (.lst acc) ∧ Ams gOdd H' acc ((ns.take i).map pw))
      ⟨d5.new hM, S5.mono (Same.new hM), Same.new hM _ _ hN5, [], _, none, none, rfl, upd_same, .nil⟩ (fun i σ H' _ ⟨_, _, h, _⟩ => SqL.of h) ?_ ?_⟩
    · rintro i x σ H6 hx ⟨d6, S6, hN6, acc, v5, v7, v8, rfl, hM6, hma⟩
      obtain ⟨n, hni, rfl⟩ := map_at hx
      have hns := hsm n (List.mem_of_getElem? hni)
      have hi : i < ns.length := (List.getElem?_eq_some_iff.mp hni).1
      refine ⟨(by show 2 ≤ sizeLine; decide), fun tp htp => ?_⟩
      have sp : Same H6 (upd H6 tp (.tup [.int 1, .int 1])) := Same.new htp
      have hen : (if n < 0 then -n else n).toNat = n.natAbs := by split <;> omega
      refine ⟨_, rfl, _, rfl, (if n < 0 then -n else n), rfl, by split <;> omega, by split <;> omega, for_range (lo := 0) (n := (if n < 0 then -n else n).toNat) (fun j σ H' => Same H6 H' ∧ ∃ (v5 : Option V) (pv : V),
          σ = [some (.ref d), some (.ref s1), some (.ref s2), some (.ref s3), some (.ref N), v5, some (.ref M), some (.int n), some pv, none, none, none] ∧ AmV H' pv (gOdd.am (pwK n j)))
        ⟨sp, v5, .ref tp, rfl, ?_⟩ ?_ ?_⟩
      · have e : pwK n 0 = gOdd.zero := by
          unfold pwK
          by_cases p : n > 0
          · rw [if_pos p]
            rfl
          · rw [if_neg p]
            rfl
        rw [e]
        exact ⟨tp, rfl, upd_same⟩
      · rintro j σ H7 hj ⟨s7, v5, pv, rfl, hpv⟩
        have hj20 : j ≤ 20 := by omega
        have S7 := S6.mono s7
        refine ⟨_, rfl, _, _, rfl, rfl, _, rfl, ?_⟩
        by_cases p : n > 0
        · rw [decide_eq_true p]
          obtain ⟨dx, fs, g1, g2⟩ := sc_recv (m := "plus") S7.b (by decide +kernel)
          refine iteT ⟨_, rfl, s2, dx, fs, rfl, g1, g2, _, rfl, (by show 2 ≤ sizeLine; decide), fun t2 ht2 => ?_⟩
          have sn := Same.new (H := H7) (o := .tup [.int 2, .int 1]) ht2
          refine ⟨s2, _, [pwK n j, two], 140, rfl, S7.b.mono sn, .cons (hpv.mono sn) (.cons ⟨t2, rfl, upd_same⟩ .nil), ok_cons (pwK_ok hj20) (ok_cons (gOdd.ok_mono 2 140 _ (by decide) two_ok) ok_nil), (by show 2 * 140 + 1 ≤ 8000; decide), (by show 2 ≤ 5; decide), fun z H8 s8 hz => ?_⟩
          have hz : AmV H8 z (gOdd.am (gOdd.sum [pwK n j, two])) := hz
          rw [pwK_up p] at hz
          exact ⟨s7.trans (sn.trans s8), _, z, rfl, hz⟩
        · rw [decide_eq_false p]
          obtain ⟨dx, fs, g1, g2⟩ := sc_recv (m := "minus") S7.b (by decide +kernel)
          refine iteF ⟨_, rfl, s2, dx, fs, rfl, g1, g2, _, rfl, (by show 2 ≤ sizeLine; decide), fun t2 ht2 => ?_⟩
          have sn := Same.new (H := H7) (o := .tup [.int 2, .int 1]) ht2
          refine ⟨s2, _, _, pwK n j, two, rfl, S7.b.mono sn, hpv.mono sn, ⟨t2, rfl, upd_same⟩, gOdd.ok_mono _ _ _ (by decide) (pwK_ok hj20), gOdd.ok_mono 2 3000 _ (by decide) two_ok, fun z H8 s8 hz => ?_⟩
          have hz : AmV H8 z (gOdd.am (gOdd.add (pwK n j) (gOdd.neg two))) := hz
          rw [pwK_dn p] at hz
          exact ⟨s7.trans (sn.trans s8), _, z, rfl, hz⟩
      · rintro σ H7 ⟨s7, v5, pv, rfl, hpv⟩
        rw [hen] at hpv
        have hpv : AmV H7 pv (gOdd.am (pw n)) := hpv
        have hM7 := s7 _ _ hM6
        refine ⟨_, rfl, .inl ⟨rfl, _, SqL.of hM7⟩, _, rfl, M, acc, _, rfl, rfl, hM7, ?_, (d6.same s7).set h0 hMnone, Sc3.keep hM7 (S6.mono s7), ?_, _, _, _, _, rfl, upd_same, ?_⟩
        · have := hma.length
          rw [List.length_map, List.length_take] at this
          exact small1000 (by omega)
        · rw [upd_ne hMN.symm]
          exact s7 _ _ hN6
        · rw [take_snoc hni, List.map_append]
          exact (Ams.keep hM7 (Ams.mono s7 hma)).snoc (hpv.keep hM7)
    rintro σ H6 ⟨d6, S6, hN6, am, v5, v7, v8, rfl, hM6, hma⟩
    rw [List.length_map, List.take_length] at hma
    -- the wrapped numbers
    refine ⟨_, rfl, N, rfl, ⟨_, SqL.of hN6⟩, fun W hW => lc_list (K := K) (a := N) (xs := ns.map V.int) (fun i H' => Same H6 H' ∧ ∃ acc, H' W = some (.lst acc) ∧ Ams g1 H' acc ((ns.take i).map wr)) ⟨Same.new hW, [], upd_same, .nil⟩
      (fun i H' _ ⟨s', _⟩ => SqL.of (s' _ _ hN6)) ?_ ?_⟩
    · rintro i x H7 hx ⟨s7, acc, hacc, hwa⟩
      obtain ⟨n, hni, rfl⟩ := map_at hx
      have hi : i < ns.length := (List.getElem?_eq_some_iff.mp hni).1
      refine ⟨rfl, _, rfl, (by show 1 ≤ sizeLine; decide), fun u hu => ?_⟩
      have su := Same.new (H := H7) (o := .tup [.int n]) hu
      have hW7 := su _ _ hacc
      refine ⟨acc, hW7, ?_, ?_, _, upd_same, ?_⟩
      · have := hwa.length
        rw [List.length_map, List.length_take] at this
        exact small1000 (by omega)
      · exact fun c o e => by
          rw [upd_ne (fun z => by rw [z, hW] at e; cases e)]
          exact su _ _ (s7 _ _ e)
      · rw [take_snoc hni, List.map_append]
        exact (Ams.keep hW7 (Ams.mono su hwa)).snoc (AmV.keep hW7 ⟨u, rfl, upd_same⟩)
    rintro H7 ⟨s7, aw, hW7, hwa⟩
    rw [List.length_map, List.take_length] at hwa
    have F : PFa C1 C2 C3 d H H7 s1 s2 s3 N M W ns am aw := ⟨d6.same s7, S6.mono s7, s7 _ _ hN6, s7 _ _ hM6, Ams.mono s7 hma, hW7, hwa⟩
    have okP : ∀ x ∈ ns.map pw, gOdd.ok 140 x := fun x hx => by
      obtain ⟨n, hn, rfl⟩ := List.mem_map.mp hx
      exact pw_ok (hsm n hn)
    have okP3 : ∀ x ∈ ns.map pw, gOdd.ok 3000 x := fun x hx => gOdd.ok_mono _ _ _ (by decide) (okP x hx)
    have l4 : (ns.map pw).length = 4 := by rw [List.length_map]; exact hn
    have w4 : (ns.map wr).length = 4 := by rw [List.length_map]; exact hn
    have e1 : rank (fI gOdd (ns.map pw)) (ns.map pw).length = rank (fI gSum ns) ns.length := by rw [fI_pw, List.length_map]
    have e2 : rank (fI g1 (ns.map wr)) (ns.map wr).length = rank (fI gSum ns) ns.length := by rw [fI_wr, List.length_map]
    -- the rankings
    obtain ⟨dx, fs, g1', g2⟩ := sc_recv (m := "ranked") F.sc.a (by decide +kernel)
    refine ⟨_, rfl, s1, dx, fs, rfl, g1', g2, _, rfl, N, _, rfl, .inl ⟨SqL.of F.n, fun qq hqq => ⟨s1, qq, _, ns, rfl, F.sc.a.mono (Same.new hqq), upd_same, Ams.mono (Same.new hqq) (ams_sums _ ns), (fun _ _ => trivial), (by show 0 < (ns).length; omega), (by show (ns).length ≤ 100; omega), fun q1 H8 s8 hq1 => ?_⟩⟩⟩
    replace s8 := (Same.new hqq).trans s8
    replace F := F.mono s8
    obtain ⟨dx, fs, g1', g2⟩ := sc_recv (m := "ranked") F.sc.b (by decide +kernel)
    refine ⟨_, rfl, s2, dx, fs, rfl, g1', g2, _, rfl, M, _, rfl, .inl ⟨SqL.of F.m, fun qq hqq => ⟨s2, qq, _, ns.map pw, rfl, F.sc.b.mono (Same.new hqq), upd_same, Ams.mono (Same.new hqq) F.ma, okP3, (by show 0 < (ns.map pw).length; omega), (by show (ns.map pw).length ≤ 100; omega), fun q2 H9 s9 hq2 => ⟨.t (rank (fI gSum ns) ns.length), .t (rank (fI gOdd (ns.map pw)) (ns.map pw).length), ⟨q1, rfl, s9 _ _ (Same.new hqq _ _ hq1)⟩, ⟨q2, rfl, hq2⟩, _, rfl, ?_⟩⟩⟩⟩
    replace s9 := (Same.new hqq).trans s9
    rw [e1, decide_eq_true rfl]
    replace F := F.mono s9
    refine iteF ?_
    obtain ⟨dx, fs, g1', g2⟩ := sc_recv (m := "ranked") F.sc.a (by decide +kernel)
    refine ⟨_, rfl, s1, dx, fs, rfl, g1', g2, _, rfl, N, _, rfl, .inl ⟨SqL.of F.n, fun qq hqq => ⟨s1, qq, _, ns, rfl, F.sc.a.mono (Same.new hqq), upd_same, Ams.mono (Same.new hqq) (ams_sums _ ns), (fun _ _ => trivial), (by show 0 < (ns).length; omega), (by show (ns).length ≤ 100; omega), fun q3 H10 s10 hq3 => ?_⟩⟩⟩
    replace s10 := (Same.new hqq).trans s10
    replace F := F.mono s10
    obtain ⟨dx, fs, g1', g2⟩ := sc_recv (m := "ranked") F.sc.c (by decide +kernel)
    refine ⟨_, rfl, s3, dx, fs, rfl, g1', g2, _, rfl, W, _, rfl, .inl ⟨SqL.of F.w, fun qq hqq => ⟨s3, qq, _, ns.map wr, rfl, F.sc.c.mono (Same.new hqq), upd_same, Ams.mono (Same.new hqq) F.wa, (fun _ _ => trivial), (by show 0 < (ns.map wr).length; omega), (by show (ns.map wr).length ≤ 100; omega), fun q4 H11 s11 hq4 => ⟨.t (rank (fI gSum ns) ns.length), .t (rank (fI g1 (ns.map wr)) (ns.map wr).length), ⟨q3, rfl, s11 _ _ (Same.new hqq _ _ hq3)⟩, ⟨q4, rfl, hq4⟩, _, rfl, ?_⟩⟩⟩⟩
    replace s11 := (Same.new hqq).trans s11
    rw [e2, decide_eq_true rfl]
    replace F := F.mono s11
    refine iteF ?_
    -- the total
    obtain ⟨dx, fs, g1', g2⟩ := sc_recv (m := "plus_all") F.sc.a (by decide +kernel)
    refine ⟨_, rfl, s1, dx, fs, rfl, g1', g2, _, rfl, N, _, rfl, .inl ⟨SqL.of F.n, fun qq hqq => ⟨s1, qq, _, ns, 140, rfl, F.sc.a.mono (Same.new hqq), upd_same, Ams.mono (Same.new hqq) (ams_sums _ ns), (fun _ _ => trivial), (by show (ns).length * 140 + 1 ≤ 8000; omega), (by show (ns).length ≤ 100; omega), fun zt H12 s12 hzt => ?_⟩⟩⟩
    replace s12 := (Same.new hqq).trans s12
    obtain rfl : zt = V.int (gSum.sum ns) := hzt
    replace F := F.mono s12
    obtain ⟨dx, fs, g1', g2⟩ := sc_recv (m := "sign") F.sc.b (by decide +kernel)
    obtain ⟨dy, fy, g3, g4⟩ := sc_recv (m := "plus_all") F.sc.b (by decide +kernel)
    refine ⟨_, rfl, s2, dx, fs, rfl, g1', g2, _, rfl, s2, dy, fy, rfl, g3, g4, _, rfl, M, _, rfl, .inl ⟨SqL.of F.m, fun qq hqq => ⟨s2, qq, _, ns.map pw, 140, rfl, F.sc.b.mono (Same.new hqq), upd_same, Ams.mono (Same.new hqq) F.ma, okP, (by show (ns.map pw).length * 140 + 1 ≤ 8000; omega), (by show (ns.map pw).length ≤ 100; omega), fun z1 H13 s13 hz1 => ?_⟩⟩⟩
    replace s13 := (Same.new hqq).trans s13
    replace F := F.mono s13
    have hz1 : AmV H13 z1 (gOdd.am (gOdd.sum (ns.map pw))) := hz1
    have okT : gOdd.ok 3000 (gOdd.sum (ns.map pw)) := gOdd.ok_mono _ _ _ (by omega) (Grp.ok_sum okP)
    refine ⟨s2, z1, gOdd.sum (ns.map pw), rfl, F.sc.b, hz1, okT, fun H14 s14 => ?_⟩
    have esg : sgI gOdd (gOdd.sum (ns.map pw)) = sgI gSum (gSum.sum ns) := by rw [pw_sum, pw_sg]
    rw [show sgI (dOdd C3).G (gOdd.sum (ns.map pw)) = sgI gSum (gSum.sum ns) from esg]
    replace F := F.mono s14
    obtain ⟨dx, fs, g1', g2⟩ := sc_recv (m := "plus_all") F.sc.c (by decide +kernel)
    refine ⟨_, rfl, s3, dx, fs, rfl, g1', g2, _, rfl, W, _, rfl, .inl ⟨SqL.of F.w, fun qq hqq => ⟨s3, qq, _, ns.map wr, 140, rfl, F.sc.c.mono (Same.new hqq), upd_same, Ams.mono (Same.new hqq) F.wa, (fun _ _ => trivial), (by show (ns.map wr).length * 140 + 1 ≤ 8000; omega), (by show (ns.map wr).length ≤ 100; omega), fun z2 H15 s15 hz2 => ?_⟩⟩⟩
    replace s15 := (Same.new hqq).trans s15
    have hz2 : AmV H15 z2 (g1.am (g1.sum (ns.map wr))) := hz2
    rw [wr_sum] at hz2
    obtain ⟨u, rfl, hu⟩ := hz2
    have hu : H15 u = some (.tup [.int (gSum.sum ns)]) := hu
    replace F := F.mono s15
    refine ⟨(by show 2 ≤ sizeLine; decide), fun L hL => ?_⟩
    have sL := Same.new (H := H15) (o := .lst [.int (sgI gSum (gSum.sum ns)), .ref u]) hL
    have hL1 : (upd H15 L (.lst [.int (sgI gSum (gSum.sum ns)), .ref u])) L = some (.lst [.int (sgI gSum (gSum.sum ns)), .ref u]) := upd_same
    have hu1 := sL _ _ hu
    replace F := F.mono sL
    generalize upd H15 L (.lst [.int (sgI gSum (gSum.sum ns)), .ref u]) = H16 at sL hL1 hu1 F ⊢
    obtain ⟨dx, fs, g1', g2⟩ := sc_recv (m := "sign") F.sc.a (by decide +kernel)
    refine ⟨_, rfl, _, rfl, s1, dx, fs, rfl, g1', g2, _, rfl, s1, _, gSum.sum ns, rfl, F.sc.a, rfl, trivial, fun H17 s17 => ?_⟩
    refine ⟨_, rfl, (by show 1 ≤ sizeLine; decide), fun t ht => ⟨(by show 2 ≤ sizeLine; decide), fun L2 hL2 => ?_⟩⟩
    have s18 := (Same.new (o := .tup [.int (gSum.sum ns)]) ht).trans (Same.new (o := .lst [.int (sgI gSum (gSum.sum ns)), .ref t]) hL2)
    have s16_18 := s17.trans s18
    refine ⟨.list [.int (sgI gSum (gSum.sum ns)), .tuple [.int (gSum.sum ns)]], .list [.int (sgI gSum (gSum.sum ns)), .tuple [.int (gSum.sum ns)]],
      .lst (SqL.of (s16_18 _ _ hL1)) (.cons (.int _) (.cons (.tup (SqT.of (s16_18 _ _ hu1)) (.cons (.int _) .nil)) .nil)),
      .lst (SqL.of upd_same) (.cons (.int _) (.cons (.tup (SqT.of (Same.new hL2 _ _ upd_same)) (.cons (.int _) .nil)) .nil)), ?_, ?_, ?_⟩
    · simp [SeqAt.shaped, PyData.canLay0, PyData.canLayAll0, PyData.depth, PyData.depthAll]
    · simp [SeqAt.shaped, PyData.canLay0, PyData.canLayAll0, PyData.depth, PyData.depthAll]
    · rw [show PyData.eqv (.list [.int (sgI gSum (gSum.sum ns)), .tuple [.int (gSum.sum ns)]]) (.list [.int (sgI gSum (gSum.sum ns)), .tuple [.int (gSum.sum ns)]]) = true by simp [PyData.eqv, PyData.eqvAll]]
      exact k _ ((F.mono s16_18).st)
end
end Mo

set_option Elab.async false
set_option linter.all false
set_option maxRecDepth 100000
set_option maxHeartbeats 4000000
namespace Mo
open PySem PySem.Spec PyProof.Rows L2
/-! ### law -/
theorem sql_same {K : PySem.W.Frag} {H H' : Hp} {a : Addr} {xs : List V} (s : Same H H') : SqL K H a xs → SqL K H' a xs
  | .inl (.inl e) => .inl (.inl (s _ _ e))
  | .inl (.inr ⟨o, e⟩) => .inl (.inr ⟨o, s _ _ e⟩)
  | .inr z => .inr z
/-! the three chances that the law tells -/
def q3 : QP := ⟨3, by decide⟩
theorem told_w1 : ∀ x ∈ [q3, two], isW x := by
  show ∀ x ∈ [q3, two], ((x.1.den : Int) < x.1.num ∧ x.1.num ≤ 1000000)
  decide +kernel
theorem told_w3 : ∀ x ∈ [two, two, two], isW x := by
  show ∀ x ∈ [two, two, two], ((x.1.den : Int) < x.1.num ∧ x.1.num ≤ 1000000)
  decide +kernel
theorem told_b1 : ∀ x ∈ ([0] : List Int), 0 ≤ x ∧ x < (([q3, two].length : Nat) : Int) := by decide +kernel
theorem told_b3 : ∀ x ∈ ([0, 1, 2] : List Int), 0 ≤ x ∧ x < (([two, two, two].length : Nat) : Int) := by decide +kernel
theorem told_1 : (chQ [q3, two] [0]).num = 1 ∧ (chQ [q3, two] [0]).den = 4 := by decide +kernel
theorem told_2 : (chQ [] []).num = 1 ∧ (chQ [] []).den = 1 := by decide +kernel
theorem told_3 : (chQ [two, two, two] [0, 1, 2]).num = 8 ∧ (chQ [two, two, two] [0, 1, 2]).den = 27 := by decide +kernel
section
variable {P : Program} {w : World} {K : PySem.W.Frag} {mg : Str → Option Value} {base : Heap} {C0 C1 C2 C3 : Addr} {D : Kd}
/-- one promise for the three kinds of scales -/
def uK (C1 C2 C3 : Addr) (sp : Kd → Sp) : Sp := fun vs H Q E => ∃ D, Kind C1 C2 C3 D ∧ sp D vs H Q E
theorem gf_all {x : Str} {k : Nat} {sp : Kd → Sp} (h : ∀ D, Kind C1 C2 C3 D → Gf P w K mg base k x (sp D)) : Gf P w K mg base k x (uK C1 C2 C3 sp) := by
  obtain ⟨f, hm, kp, F⟩ := h _ .sums
  refine ⟨f, hm, kp, fun A outer s H us vs Q E hr e0 r ⟨D, hk, hs⟩ => ?_⟩
  obtain ⟨f', hm', _, F'⟩ := h D hk
  rw [hm] at hm'
  cases hm'
  exact F' A outer s H us vs Q E hr e0 r hs
theorem op_neK {X : Cx} {j : Nat} (T : Txt X.K X.mg C0 C1 C2 C3) (hr : Room (j + 1) X.A) (hk : 1 ≤ j := by decide) : OpR X (compareOp .NotEq) (fun x y H Q => ∃ D, Kind C1 C2 C3 D ∧ rNeO D.C (spEq D) x y H Q) := by
  intro pins s σ H x y v u Q I rx ry ⟨D, hD, q⟩
  have B : Abs X.prog X.w X.K X.mg X.base C0 D := hD.abs T
  obtain ⟨nn, q0, q1, q2, q3, q4, q5, ct⟩ := B.ct
  exact op_neO (m_eq T B) ct.ne ct.cm hr hk pins s σ H x y v u Q I rx ry q
def spLaw (K : PySem.W.Frag) : Sp := fun vs H Q _ => ∃ (a : Addr) (ns : List Int), vs = [.ref a] ∧ SqL K H a (ns.map V.int) ∧ ns.length ≤ 63 ∧ ∀ H', Q (.bl true) H'
abbrev NL : List Str := ["_law_script", "_law_at", "_law_dice_here", "_law_measure", "_law_meter", "_law_turn", "_law_a", "_law_b", "_law_c", "_law_step", "_law_loads", "_law_told"]
theorem sc41 : FnScope NL ["_law_script"] (defScope (top 41)) := ⟨rfl, rfl, rfl, by decide +kernel, rfl, by decide +kernel, by decide +kernel⟩
theorem b_law (T : Txt K mg C0 C1 C2 C3) : BodyOk P w K mg base NL "law" (top 41) 10 (spLaw K) := by
  intro f cdv A outer s H vs Q E hr h
  obtain ⟨a, ns, rfl, hS, h63, k⟩ := h
  have gMade : Gf P w K mg base 4 "_law_made" (uK C1 C2 C3 spMade) := gf_all fun D hD => g_made T hD
  have gAmount : Gf P w K mg base 2 "_law_amount" (uK C1 C2 C3 spAmount) := gf_all fun D hD => g_amount T hD
  have gWeight : Gf P w K mg base 2 "_law_weight" (uK C1 C2 C3 spWeight) := gf_all fun D hD => g_weight T hD
  have gThrees : Gf P w K mg base 10 "_law_threes_right" (uK C1 C2 C3 spThrees) := gf_all fun D hD => g_threes T (hD.abs T)
  have gLoads : Gf P w K mg base 10 "_law_loads_right" (uK C1 C2 C3 spLoads) := gf_all fun D hD => g_loads T (hD.abs T)
  refine ⟨_, pss_cons (ps_for PassesOwn.never rfl (pi_range1 rfl T.frange (pa_cons (pe_callB (call_max2 rfl) rfl T.fmax (by decide +kernel) (pa_cons pe_int (pa_cons (pe_callB (call_min2 rfl) rfl T.fmin (by decide +kernel) (pa_cons pe_int (pa_cons (pe_callB call_len_seq rfl T.flen PySem.boot_len (pa_cons (pv 0) pa_nil)) pa_nil))) pa_nil))) pa_nil)) (pg_name (i := 1) sc41.nd rfl (Or.inl rfl))
      (pss_cons (ps_set (i := 2) sc41.nd rfl (Or.inr rfl) (pe_g (g_dice T) hr rfl (pa_cons (pv 0) (pa_cons (pv 1) pa_nil))))
      (pss_cons (ps_for PassesOwn.never rfl (pi_list (pe_lst (pa_cons (pe_tup (pa_cons pe_str (pa_cons pe_int pa_nil))) (pa_cons (pe_tup (pa_cons pe_str (pa_cons (pe_op op_add pe_int (pe_g (g_pull T) hr rfl (pa_cons (pv 2) (pa_cons pe_int pa_nil)))) pa_nil))) (pa_cons (pe_tup (pa_cons pe_str (pa_cons pe_int pa_nil))) pa_nil))))) (pg_name (i := 3) sc41.nd rfl (Or.inr rfl))
        (pss_cons (ps_set (i := 4) sc41.nd rfl (Or.inl rfl) (pe_g gMade hr rfl (pa_cons (pv 3) pa_nil)))
        (pss_cons (ps_for PassesOwn.never rfl (pi_range1 rfl T.frange (pa_cons pe_int pa_nil)) (pg_name (i := 5) sc41.nd rfl (Or.inl rfl))
          (pss_cons (ps_asg (pe_lc (own := [("_law_step", 9)]) (g := gName 9) (tt := tYes) (te := tG (uK C1 C2 C3 spAmount) (tCons (tVar 2) (tCons (tVar 3) tNil))) rfl sc41.nd (pi_range1 rfl T.frange (pa_cons pe_int pa_nil))
              (blkOk_by (own := [("_law_step", 9)]) (N := NL) (sc := defScope (top 41)) (by decide +kernel)) (fun _ _ _ _ _ => pg_name (i := 9) sc41.nd rfl (Or.inl rfl)) (fun _ _ _ _ _ => pts_nil) (fun s1 H1 c1 cl1 fp1 => ?e1))
              (pg_unl rfl (pgs_cons (pg_name (i := 6) sc41.nd rfl (Or.inl rfl)) (pgs_cons (pg_name (i := 7) sc41.nd rfl (Or.inl rfl)) (pgs_cons (pg_name (i := 8) sc41.nd rfl (Or.inl rfl)) pgs_nil)))))
          (pss_one (ps_if (PW.pt (pw_or (pt_not (pt_val (pe_g gThrees hr rfl (pa_cons (pv 4) (pa_cons (pv 6) (pa_cons (pv 7) (pa_cons (pv 8) pa_nil)))))))
            (pw_or1 (pt_not (pt_val (pe_g gThrees hr rfl (pa_cons (pe_g gMade hr rfl (pa_cons (pv 3) pa_nil)) (pa_cons (pv 6) (pa_cons (pv 7) (pa_cons (pv 6) pa_nil)))))))))) (pss_one (ps_ret pe_bl)) pss_nil))))
        (pss_cons (ps_set (i := 10) sc41.nd rfl (Or.inl rfl) (pe_callTy call_tuple_of rfl T.ftuple boot_tuple (pa_cons (pe_lc (own := [("_law_turn", 5)]) (g := gName 5) (tt := tYes) (te := tG (uK C1 C2 C3 spWeight) (tCons (tVar 2) (tCons (tVar 3) tNil))) rfl sc41.nd (pi_range1 rfl T.frange (pa_cons (pe_op op_add pe_int (pe_g (g_pull T) hr rfl (pa_cons (pv 2) (pa_cons pe_int pa_nil)))) pa_nil))
              (blkOk_by (own := [("_law_turn", 5)]) (N := NL) (sc := defScope (top 41)) (by decide +kernel)) (fun _ _ _ _ _ => pg_name (i := 5) sc41.nd rfl (Or.inl rfl)) (fun _ _ _ _ _ => pts_nil) (fun s1 H1 c1 cl1 fp1 => ?e2)) pa_nil)))
        (pss_one (ps_if (PW.pt (pw_or (pt_not (pt_val (pe_g gLoads hr rfl (pa_cons (pv 4) (pa_cons (pv 10) pa_nil))))) (pw_or1 (pt_cmpR (op_neK T hr) (pv 4) (pe_g gMade hr rfl (pa_cons (pv 3) pa_nil)) (nomark _))))) (pss_one (ps_ret pe_bl)) pss_nil))))))
      (pss_cons (ps_set (i := 10) sc41.nd rfl (Or.inl rfl) (pe_callTy call_tuple_of rfl T.ftuple boot_tuple (pa_cons (pe_lc (own := [("_law_turn", 5)]) (g := gName 5) (tt := tYes) (te := tG (uK C1 C2 C3 spWeight) (tCons (tVar 2) (tCons (tTup (tCons (tC (.str "odds")) (tCons (tC (.int 1)) tNil))) tNil))) rfl sc41.nd (pi_range1 rfl T.frange (pa_cons (pe_g (g_pull T) hr rfl (pa_cons (pv 2) (pa_cons pe_int pa_nil))) pa_nil))
              (blkOk_by (own := [("_law_turn", 5)]) (N := NL) (sc := defScope (top 41)) (by decide +kernel)) (fun _ _ _ _ _ => pg_name (i := 5) sc41.nd rfl (Or.inl rfl)) (fun _ _ _ _ _ => pts_nil) (fun s1 H1 c1 cl1 fp1 => ?e3)) pa_nil)))
      (pss_one (ps_if (PW.pt (pw_or (pt_not (pt_val (pe_g (g_chances T) hr rfl (pa_cons (pv 10) pa_nil)))) (pw_or1 (pt_not (pt_val (pe_g (g_powers T) hr rfl (pa_cons (pv 2) pa_nil))))))) (pss_one (ps_ret pe_bl)) pss_nil))))))
    (pss_cons (ps_set (i := 11) sc41.nd rfl (Or.inl rfl) (pe_lst (pa_cons (pe_g (g_chance T) hr rfl (pa_cons (pe_tup (pa_cons (pe_tup (pa_cons pe_int (pa_cons pe_int pa_nil))) (pa_cons (pe_tup (pa_cons pe_int (pa_cons pe_int pa_nil))) pa_nil))) (pa_cons (pe_tup (pa_cons pe_int pa_nil)) pa_nil)))
        (pa_cons (pe_g (g_chance T) hr rfl (pa_cons (pe_tup pa_nil) (pa_cons (pe_tup pa_nil) pa_nil)))
        (pa_cons (pe_g (g_chance T) hr rfl (pa_cons (pe_op op_repT (pe_tup (pa_cons (pe_tup (pa_cons pe_int (pa_cons pe_int pa_nil))) pa_nil)) pe_int) (pa_cons (pe_tup (pa_cons pe_int (pa_cons pe_int (pa_cons pe_int pa_nil)))) pa_nil))) pa_nil)))))
    (pss_one (ps_ret (pe_cmpR (op_eqD hr.units) (pv 11) (pe_lst (pa_cons (pe_tup (pa_cons pe_int (pa_cons pe_int pa_nil))) (pa_cons (pe_tup (pa_cons pe_int (pa_cons pe_int pa_nil))) (pa_cons (pe_tup (pa_cons pe_int (pa_cons pe_int pa_nil))) pa_nil)))) (nomark _))))), ?main⟩
  case e1 => exact pe_g gAmount hr rfl (pa_cons (pv 2) (pa_cons (pv 3) pa_nil))
  case e2 => exact pe_g gWeight hr rfl (pa_cons (pv 2) (pa_cons (pv 3) pa_nil))
  case e3 => exact pe_g gWeight hr rfl (pa_cons (pv 2) (pa_cons (pe_tup (pa_cons pe_str (pa_cons pe_int pa_nil))) pa_nil))
  case main =>
    have Z2 : 2 ≤ sizeLine := by decide
    refine ⟨_, rfl, a, _, rfl, .inl hS, _, _, rfl, _, _, rfl, _, rfl, ?_⟩
    have hmx : ∀ x : Int, (if (if x < 6 then x else 6) > 1 then (if x < 6 then x else 6) else 1) ≤ 6 ∧ 1 ≤ (if (if x < 6 then x else 6) > 1 then (if x < 6 then x else 6) else 1) := fun x => by
      by_cases h1 : x < 6
      · rw [if_pos h1]
        by_cases h2 : x > 1
        · rw [if_pos h2]
          omega
        · rw [if_neg h2]
          omega
      · rw [if_neg h1]
        rw [if_pos (by decide)]
        omega
    obtain ⟨m1, m2⟩ := hmx (((ns.map V.int).length : Nat) : Int)
    generalize (if (if (((ns.map V.int).length : Nat) : Int) < 6 then (((ns.map V.int).length : Nat) : Int) else 6) > 1 then (if (((ns.map V.int).length : Nat) : Int) < 6 then (((ns.map V.int).length : Nat) : Int) else 6) else 1) = mx at m1 m2 ⊢
    refine ⟨by omega, by omega, for_range (lo := 0) (n := mx.toNat) (fun i σ H' => Same H H' ∧ ∃ (v1 v2 v3 v4 v5 v6 v7 v8 v9 v10 v11 : Option V), σ = [some (.ref a), v1, v2, v3, v4, v5, v6, v7, v8, v9, v10, v11]) ⟨Same.refl _, none, none, none, none, none, none, none, none, none, none, none, rfl⟩ ?_ ?_⟩
    · rintro i σ H1 hi ⟨s1, v1, v2, v3, v4, v5, v6, v7, v8, v9, v10, v11, rfl⟩
      refine ⟨_, rfl, _, rfl, a, ns, 0 + (i : Int), rfl, sql_same s1 hS, h63, by omega, by omega, fun d H2 hd s2 h0 => ?_⟩
      refine ⟨Z2, fun t1 ht1 => ?_⟩
      have D1 : DStep d H2 (upd H2 t1 (.tup [.str "sums", .int 1])) := (DStep.refl h0).new ht1
      refine ⟨_, rfl, d, 4, rfl, D1.2, by decide, by decide, fun r H3 r0 r1 s3 => ⟨_, _, rfl, rfl, Z2, fun t2 ht2 => ⟨Z2, fun t3 ht3 => ⟨(by show 3 ≤ sizeLine; decide), fun L hL => ?_⟩⟩⟩⟩
      have D3 := D1.trans s3
      have e1 : H3 t1 = some (.tup [.str "sums", .int 1]) := s3.1 _ _ upd_same (DStep.ne D1.2 upd_same (fun xs q => by cases q))
      have s4 : Same H3 (upd (upd (upd H3 t2 (.tup [.str "classes", .int (1 + r)])) t3 (.tup [.str "odds", .int 1])) L (.lst [.ref t1, .ref t2, .ref t3])) := (Same.new ht2).trans ((Same.new ht3).trans (Same.new hL))
      have D4 := D3.same s4
      have kinds : ∀ (j : Nat) (v : V), [V.ref t1, V.ref t2, V.ref t3][j]? = some v → ∃ D m, Kind C1 C2 C3 D ∧ v = .ref m ∧ (upd (upd (upd H3 t2 (.tup [.str "classes", .int (1 + r)])) t3 (.tup [.str "odds", .int 1])) L (.lst [.ref t1, .ref t2, .ref t3])) m = some (.tup [.str D.word, .int D.size]) := by
        intro j v hv
        match j, hv with
        | 0, hv => exact ⟨_, t1, .sums, (Option.some.inj hv).symm, s4 _ _ e1⟩
        | 1, hv =>
          refine ⟨_, t2, .cls (1 + r).toNat (by omega) (by omega), (Option.some.inj hv).symm, ?_⟩
          have e : (((1 + r).toNat : Nat) : Int) = 1 + r := by omega
          show _ = some (HO.tup [.str "classes", .int (((1 + r).toNat : Nat) : Int)])
          rw [e]
          exact Same.new hL _ _ (Same.new ht3 _ _ upd_same)
        | 2, hv => exact ⟨_, t3, .odds, (Option.some.inj hv).symm, Same.new hL _ _ upd_same⟩
      have hL4 : (upd (upd (upd H3 t2 (.tup [.str "classes", .int (1 + r)])) t3 (.tup [.str "odds", .int 1])) L (.lst [.ref t1, .ref t2, .ref t3])) L = some (.lst [.ref t1, .ref t2, .ref t3]) := upd_same
      have nL : L ≠ d := fun z => by
        obtain ⟨x, y, u, e⟩ := (D3.same ((Same.new (o := .tup [.str "classes", .int (1 + r)]) ht2).trans (Same.new (o := .tup [.str "odds", .int 1]) ht3))).2
        rw [z, e] at hL
        cases hL
      generalize upd (upd (upd H3 t2 (.tup [.str "classes", .int (1 + r)])) t3 (.tup [.str "odds", .int 1])) L (.lst [.ref t1, .ref t2, .ref t3]) = H4 at s4 D4 kinds hL4
      refine ⟨L, rfl, ⟨_, SqL.of hL4⟩, for_list (K := K) (a := L) (xs := [.ref t1, .ref t2, .ref t3]) (fun j σ H' => DStep d H4 H' ∧ ∃ (v3 v4 v5 v6 v7 v8 v9 v10 v11 : Option V), σ = [some (.ref a), some (.int (0 + (i : Int))), some (.ref d), v3, v4, v5, v6, v7, v8, v9, v10, v11])
        ⟨DStep.refl D4.2, _, _, _, _, _, _, _, _, _, rfl⟩ (fun j σ H' _ ⟨s', _⟩ => SqL.of (s'.1 _ _ hL4 nL)) ?_ ?_⟩
      · rintro j v σ H5 hv ⟨s5, v3, v4, v5, v6, v7, v8, v9, v10, v11, rfl⟩
        obtain ⟨D, m, hD, rfl, hm4⟩ := kinds j v hv
        have nm : m ≠ d := DStep.ne D4.2 hm4 (fun xs q => by cases q)
        refine ⟨_, rfl, D, hD, m, rfl, s5.1 _ _ hm4 nm, fun p H6 s6 hp => ?_⟩
        have s56 := s5.same s6
        have d6 := s56.2
        have hm6 := s56.1 _ _ hm4 nm
        refine ⟨4, rfl, by decide, by decide, for_range (lo := 0) (n := (4 : Int).toNat) (fun l σ H' => DStep d H6 H' ∧ ∃ (v5 v6 v7 v8 v9 v10 v11 : Option V), σ = [some (.ref a), some (.int (0 + (i : Int))), some (.ref d), some (.ref m), some (.ref p), v5, v6, v7, v8, v9, v10, v11])
          ⟨DStep.refl d6, _, _, _, _, _, _, _, rfl⟩ ?_ ?_⟩
        · rintro l σ H7 hl ⟨s7, v5, v6, v7, v8, v9, v10, v11, rfl⟩
          have hm7 := s7.1 _ _ hm6 nm
          refine ⟨3, rfl, by decide, by decide, fun R hR => lc_range (lo := 0) (n := (3 : Int).toNat) (fun i H' => DStep d H7 H' ∧ ∃ (acc : List V) (l : List D.G.α), H' R = some (.lst acc) ∧ Ams D.G H' acc l ∧ l.length = i ∧ ∀ x ∈ l, D.G.ok 140 x)
            ⟨(DStep.refl s7.2).new hR, [], [], upd_same, .nil, rfl, ok_nil⟩ ?_ ?_⟩
          · rintro i H8 hi ⟨s8, acc, l, hacc, hal, hlen, hok⟩
            have nR : R ≠ d := fun z => by
              obtain ⟨x, y, u, e⟩ := s7.2
              rw [z, e] at hR
              cases hR
            refine ⟨rfl, _, rfl, _, rfl, D, hD, d, m, rfl, s8.2, s8.1 _ _ hm7 nm, fun v H9 b s9 hb ob => ?_⟩
            have hR9 := s9.1 _ _ hacc nR
            refine ⟨acc, hR9, ?_, (s8.trans s9).set s7.2 hR, acc ++ [v], l ++ [b], upd_same, (Ams.keep hR9 (Ams.step s9 s8.2 hal)).snoc (hb.keep hR9), ?_, ?_⟩
            · have := hal.length
              have : i < 3 := hi
              exact small1000 (by omega)
            · rw [List.length_append, hlen]
              rfl
            · intro x hx
              rcases List.mem_append.mp hx with z | z
              · exact hok x z
              · rw [List.mem_singleton.mp z]
                exact ob
          · rintro H8 ⟨s8, acc, l, hacc, hal, hlen, hok⟩
            match l, hlen, acc, hal, hok, hacc with
            | [xa, xb, xc], _, [va, vb, vc], .cons ha (.cons hb (.cons hc .nil)), hok, hacc =>
              have oa := hok xa (List.mem_cons_self ..)
              have ob := hok xb (List.mem_cons_of_mem _ (List.mem_cons_self ..))
              have oc := hok xc (List.mem_cons_of_mem _ (List.mem_cons_of_mem _ (List.mem_cons_self ..)))
              have s78 := s7.trans s8
              refine ⟨R, _, rfl, SqL.of hacc, rfl, _, _, rfl, _, _, rfl, _, _, rfl, rfl, ?_⟩
              refine ⟨_, rfl, _, rfl, _, rfl, _, rfl, D, hD, p, va, vb, vc, xa, xb, xc, rfl, hp.step s78 d6, ha, hb, hc, oa, ob, oc, fun H9 s9 => ⟨true, rfl, iteF ?_⟩⟩
              have s79 := s78.same s9
              refine ⟨_, rfl, D, hD, m, rfl, s79.1 _ _ hm6 nm, fun p2 H10 s10 hp2 => ⟨_, rfl, _, rfl, _, rfl, D, hD, p2, va, vb, va, xa, xb, xa, rfl, hp2, ha.mono (s9.trans s10), hb.mono (s9.trans s10), ha.mono (s9.trans s10), oa, ob, oa, fun H11 s11 => ⟨true, rfl, iteF ?_⟩⟩⟩
              exact ⟨(s79.same s10).same s11, _, _, _, _, _, _, _, rfl⟩
        · rintro σ H7 ⟨s7, v5, v6, v7, v8, v9, v10, v11, rfl⟩
          have hm7 := s7.1 _ _ hm6 nm
          refine ⟨_, rfl, d, 6, rfl, s7.2, by decide, by decide, fun r H8 r0 r1 s8 => ⟨_, _, rfl, rfl, 1 + r, rfl, by omega, by omega, fun R hR => ?_⟩⟩
          have s78 := s7.trans s8
          have nR : R ≠ d := fun z => by
            obtain ⟨x, y, u, e⟩ := s8.2
            rw [z, e] at hR
            cases hR
          refine lc_range (lo := 0) (n := (1 + r).toNat) (fun i H' => DStep d H8 H' ∧ ∃ (acc : List V) (l : List D.G.α), H' R = some (.lst acc) ∧ Ams D.G H' acc l ∧ l.length = i ∧ ∀ x ∈ l, wGood D x)
            ⟨(DStep.refl s8.2).new hR, [], [], upd_same, .nil, rfl, (fun x h => by cases h)⟩ ?_ ?_
          · rintro i H9 hi ⟨s9, acc, l, hacc, hal, hlen, hok⟩
            refine ⟨rfl, _, rfl, _, rfl, D, hD, d, m, rfl, s9.2, (s78.trans s9).1 _ _ hm6 nm, fun v H10 b s10 hb ob _ => ?_⟩
            have hR10 := s10.1 _ _ hacc nR
            refine ⟨acc, hR10, ?_, (s9.trans s10).set s8.2 hR, acc ++ [v], l ++ [b], upd_same, (Ams.keep hR10 (Ams.step s10 s9.2 hal)).snoc (hb.keep hR10), ?_, ?_⟩
            · have := hal.length
              exact small1000 (by omega)
            · rw [List.length_append, hlen]
              rfl
            · intro x hx
              rcases List.mem_append.mp hx with z | z
              · exact hok x z
              · rw [List.mem_singleton.mp z]
                exact ob
          · rintro H9 ⟨s9, acc, l, hacc, hal, hlen, hok⟩
            refine ⟨R, _, rfl, .inl ⟨SqL.of hacc, fun t ht => ?_⟩⟩
            have s9t := (s78.trans s9).new (o := .tup acc) ht
            refine ⟨_, rfl, _, rfl, D, hD, p, t, acc, l, rfl, hp.step s9t d6, upd_same, Ams.mono (Same.new ht) hal, hok, by omega, fun H10 s10 => ⟨true, rfl, iteF ?_⟩⟩
            have sA := s9t.same s10
            refine ⟨_, rfl, _, rfl, D, hD, m, rfl, sA.1 _ _ hm6 nm, fun q H11 s11 hq => ?_⟩
            have sB := sA.same s11
            have hpB := hp.step sB d6
            obtain ⟨dx, z1, o1, g1, _⟩ := id hpB
            obtain ⟨dy, z2, o2, g2, _⟩ := id hq
            refine ⟨D, hD, p, dx, _, q, dy, _, rfl, rfl, g1, g2, p, q, rfl, hpB, hq, true, rfl, _, rfl, iteF ?_⟩
            exact ⟨s56.trans sB, _, _, _, _, _, _, _, _, _, rfl⟩
      · rintro σ H5 ⟨s5, v3, v4, v5, v6, v7, v8, v9, v10, v11, rfl⟩
        refine ⟨_, rfl, d, 7, rfl, s5.2, by decide, by decide, fun r H6 r0 r1 s6 => ⟨r, rfl, by omega, by omega, fun R hR => ?_⟩⟩
        have s56 := s5.trans s6
        have nR : R ≠ d := fun z => by
          obtain ⟨x, y, u, e⟩ := s6.2
          rw [z, e] at hR
          cases hR
        refine lc_range (lo := 0) (n := r.toNat) (fun i H' => DStep d H6 H' ∧ ∃ (acc : List V) (l : List QP), H' R = some (.lst acc) ∧ Ams gOdd H' acc l ∧ l.length = i ∧ ∀ x ∈ l, isW x)
          ⟨(DStep.refl s6.2).new hR, [], [], upd_same, .nil, rfl, (fun x h => by cases h)⟩ ?_ ?_
        · rintro i H7 hi ⟨s7, acc, l, hacc, hal, hlen, hok⟩
          refine ⟨rfl, _, rfl, Z2, fun t ht => ?_⟩
          have st := (DStep.refl s7.2).new (o := .tup [.str "odds", .int 1]) ht
          refine ⟨dOdd C3, .odds, d, t, rfl, st.2, upd_same, fun v H8 b s8 hb _ hw => ?_⟩
          have s78 := st.trans s8
          have hR8 := s78.1 _ _ hacc nR
          refine ⟨acc, hR8, ?_, (s7.trans s78).set s6.2 hR, acc ++ [v], l ++ [b], upd_same, (Ams.keep hR8 (Ams.step s78 s7.2 hal)).snoc (AmV.keep hR8 hb), ?_, ?_⟩
          · have := hal.length
            exact small1000 (by omega)
          · rw [List.length_append, hlen]
            rfl
          · intro x hx
            rcases List.mem_append.mp hx with z | z
            · exact hok x z
            · rw [List.mem_singleton.mp z]
              exact hw rfl
        · rintro H7 ⟨s7, acc, l, hacc, hal, hlen, hok⟩
          refine ⟨R, _, rfl, .inl ⟨SqL.of hacc, fun t ht => ?_⟩⟩
          have s7t := (s56.trans s7).new (o := .tup acc) ht
          refine ⟨_, rfl, t, acc, l, rfl, upd_same, Ams.mono (Same.new ht) hal, hok, by omega, fun H8 s8 => ⟨true, rfl, iteF ⟨_, rfl, d, rfl, (s7t.same s8).2, fun H9 s9 => ⟨true, rfl, iteF ?_⟩⟩⟩⟩
          have s9' := D4.trans ((s7t.same s8).trans s9)
          refine ⟨fun c o e => ?_, _, _, _, _, _, _, _, _, _, _, _, rfl⟩
          have e2 := s1 _ _ e
          exact s9'.1 _ _ (s2 _ _ e2) (fun z => by rw [z, hd] at e2; cases e2)
    · rintro σ H1 ⟨s1, v1, v2, v3, v4, v5, v6, v7, v8, v9, v10, v11, rfl⟩
      -- the three chances
      refine ⟨Z2, fun a1 h1 => ⟨Z2, fun a2 h2 => ⟨Z2, fun a3 h3 => ⟨(by show 1 ≤ sizeLine; decide), fun a4 h4 => ?_⟩⟩⟩⟩
      refine ⟨a3, a4, _, [q3, two], [0], rfl, Same.new h4 _ _ upd_same, .cons ⟨a1, rfl, Same.new h4 _ _ (Same.new h3 _ _ (Same.new h2 _ _ upd_same))⟩ (.cons ⟨a2, rfl, Same.new h4 _ _ (Same.new h3 _ _ upd_same)⟩ .nil), told_w1, (by show 2 ≤ 6; decide), upd_same, (by show 1 ≤ 100; decide), told_b1, rfl, fun u1 H2 s2 hu1 => ?_⟩
      refine ⟨Nat.zero_le _, fun b1 k1 => ⟨Nat.zero_le _, fun b2 k2 => ?_⟩⟩
      refine ⟨b1, b2, _, [], [], rfl, Same.new k2 _ _ upd_same, .nil, (fun x h => by cases h), Nat.zero_le _, upd_same, Nat.zero_le _, (fun x h => by cases h), rfl, fun u2 H3 s3 hu2 => ?_⟩
      refine ⟨Z2, fun c1 k3 => ⟨(by show 1 ≤ sizeLine; decide), fun c2 k4 => ?_⟩⟩
      refine ⟨c2, 3, [.ref c1], rfl, rfl, SqT.of upd_same, by simp, by decide, by decide, (by show 1 ≤ 1000; decide), fun c3 k5 => ⟨(by show 3 ≤ sizeLine; decide), fun c4 k6 => ?_⟩⟩
      have hc1 : AmV (upd (upd (upd (upd H3 c1 (.tup [.int 2, .int 1])) c2 (.tup [.ref c1])) c3 (.tup (List.replicate (3 : Int).toNat [V.ref c1]).flatten)) c4 (.tup [.int 0, .int 1, .int 2])) (.ref c1) (gOdd.am two) := ⟨c1, rfl, Same.new k6 _ _ (Same.new k5 _ _ (Same.new k4 _ _ upd_same))⟩
      refine ⟨c3, c4, [.ref c1, .ref c1, .ref c1], [two, two, two], [0, 1, 2], rfl, Same.new k6 _ _ upd_same, .cons hc1 (.cons hc1 (.cons hc1 .nil)), told_w3, (by show 3 ≤ 6; decide), upd_same, (by show 3 ≤ 100; decide), told_b3, rfl, fun u3 H4 s4 hu3 => ?_⟩
      rw [told_1.1, told_1.2] at hu1
      rw [told_2.1, told_2.2] at hu2
      rw [told_3.1, told_3.2] at hu3
      have hu1 := (hu1.mono (((Same.new k1).trans (Same.new k2)).trans s3)).mono ((((Same.new k3).trans (Same.new k4)).trans ((Same.new k5).trans (Same.new k6))).trans s4)
      have hu2 := hu2.mono ((((Same.new k3).trans (Same.new k4)).trans ((Same.new k5).trans (Same.new k6))).trans s4)
      refine ⟨(by show 3 ≤ sizeLine; decide), fun L hL => ?_⟩
      refine ⟨_, rfl, Z2, fun d1 l1 => ⟨Z2, fun d2 l2 => ⟨Z2, fun d3 l3 => ⟨(by show 3 ≤ sizeLine; decide), fun L2 l4 => ?_⟩⟩⟩⟩
      have sL := ((Same.new (H := upd H4 L (.lst [u1, u2, u3])) (o := .tup [.int 1, .int 4]) l1).trans (Same.new (o := .tup [.int 1, .int 1]) l2)).trans ((Same.new (o := .tup [.int 8, .int 27]) l3).trans (Same.new (o := .lst [.ref d1, .ref d2, .ref d3]) l4))
      have sL0 := (Same.new (H := H4) (o := .lst [u1, u2, u3]) hL).trans sL
      have x1 := Same.new (o := .lst [.ref d1, .ref d2, .ref d3]) l4 d1 (.tup [.int 1, .int 4]) (Same.new (o := .tup [.int 8, .int 27]) l3 d1 _ (Same.new (o := .tup [.int 1, .int 1]) l2 d1 _ upd_same))
      have x2 := Same.new (o := .lst [.ref d1, .ref d2, .ref d3]) l4 d2 (.tup [.int 1, .int 1]) (Same.new (o := .tup [.int 8, .int 27]) l3 d2 _ upd_same)
      have x3 := Same.new (o := .lst [.ref d1, .ref d2, .ref d3]) l4 d3 (.tup [.int 8, .int 27]) upd_same
      have w1 : AmV _ (V.ref d1) (.t [1, 4]) := ⟨d1, rfl, x1⟩
      have w2 : AmV _ (V.ref d2) (.t [1, 1]) := ⟨d2, rfl, x2⟩
      have w3 : AmV _ (V.ref d3) (.t [8, 27]) := ⟨d3, rfl, x3⟩
      refine ⟨.list [(Am.t [1, 4]).py, (Am.t [1, 1]).py, (Am.t [8, 27]).py], .list [(Am.t [1, 4]).py, (Am.t [1, 1]).py, (Am.t [8, 27]).py], .lst (SqL.of (sL _ _ upd_same)) (.cons ((hu1.mono sL0).dp K) (.cons ((hu2.mono sL0).dp K) (.cons ((hu3.mono sL0).dp K) .nil))),
        .lst (SqL.of upd_same) (.cons (w1.dp K) (.cons (w2.dp K) (.cons (w3.dp K) .nil))), by decide +kernel, by decide +kernel, ?_⟩
      rw [show PyData.eqv (.list [(Am.t [1, 4]).py, (Am.t [1, 1]).py, (Am.t [8, 27]).py]) (.list [(Am.t [1, 4]).py, (Am.t [1, 1]).py, (Am.t [8, 27]).py]) = true by decide +kernel]
      exact k _
end
end Mo

set_option Elab.async false
set_option linter.all false
set_option maxRecDepth 100000
set_option maxHeartbeats 0
open PySem PySem.W PySem.Calls PyProof.Rows
theorem PySem.Challenge.cw_mostkept_k10_whole_one_ordered_group_holds : PySem.Challenge.rw_mostkept_k10_whole_one_ordered_group.Holds := by
  w_on; o_law
  refine HandSHeadRun.head_any (r := OpenLaw.row PySem.Challenge.rw_mostkept_k10_whole_one_ordered_group) (q := view (OpenLaw.row PySem.Challenge.rw_mostkept_k10_whole_one_ordered_group).prog [41]) (H := Mo.hk) (ob := Mo.ob) (M := 6000) (loose := Mo.loose) (d := HandSHeadRun.topDef (OpenLaw.row PySem.Challenge.rw_mostkept_k10_whole_one_ordered_group).prog 41) (kwd := []) Mo.ob_eq
    (by kernel_rfl) (fun s => by kernel_rfl) Mo.run (by kernel_rfl) (by kernel_rfl) (by kernel_rfl) (by rfl) (by first | assumption | decide +kernel) (by decide +kernel) ⟨rfl, rfl, rfl, rfl, rfl, by decide +kernel⟩ ?hw ?hc
  case hw => w_witness2
  case hc =>
    refine L2.walk_ofE (l := PySem.Challenge.rw_mostkept_k10_whole_one_ordered_group) (n := 63) (k := 11) (x := "_law_script") (CX := L2.CX0) rfl (by decide) (by kernel_rfl) ⟨rfl, by decide, by decide⟩ ?F (fun _ _ _ _ z => z)
    intro w mg fa h Y G hmg0
    obtain ⟨K, KX, c⟩ := Y
    have hmg : mg ("law" : PySem.Str) = some (.ref fa) := by
      have e : (HandSHeadRun.topDef (OpenLaw.row PySem.Challenge.rw_mostkept_k10_whole_one_ordered_group).prog 41).name = ("law" : PySem.Str) := by kernel_rfl
      rw [← e]
      exact hmg0
    have T := Mo.txt_of KX G c
    obtain ⟨f, fd, hm, F⟩ := T.dlaw
    have ef : fa = f := by
      rw [hmg] at hm
      cases hm
      rfl
    subst ef
    refine ⟨K, fd, Mo.spLaw K, KX, ?hb, fun H a ns hl _ hS => ⟨a, ns, rfl, hS, hl, fun _ => rfl⟩, fun base _ _ => ?hF⟩
    case hb =>
      obtain ⟨oc, od, kV, doc, pm, an, cdv, ct, osl, rfl, lk, hcd⟩ := F.ex
      have b : Mo.BindOk "law" "law" (Mo.top 41) ["_law_script"] := fun _ _ _ _ _ _ us hl => match us, hl with | [_], _ => rfl
      exact fun s v => .of_eq (b kV doc pm an cdv ct [v] rfl)
    case hF =>
      refine F.ok Mo.sc41 (fun vs H Q E h => ?_) (Mo.b_law T fa)
      obtain ⟨a, ns, rfl, _⟩ := h
      rfl
