import PyProof.Rows.All
import Wide.All
import OpenK.AllK
import Wide.FinOn
import HandS.Head0
import HandS.Head1
import HandS.Head2
import HandS.HeadHook1
import HandS.HeadHook2
import HandS.HeadHook3
import HandS.Words
import HandS.ForMost
import HandS.ForExc
import HandS.Defaults
import HandS.Wide
import HandS.TupAny
import HandS.TupMul
import HandS.CallSlots
import HandS.MakeKwOnly
import HandS.IsInst
import HandS.SortInts
import HandS.Strs
import HandS.Zip
import KE.GoesEnum
import KE.KRevSl
import HandS.ExcValue
import HandS.ExcIs
import KE.SortData
import PyProof.ReprRoads
import HandS.HeadEnd
import KE.KTupSum
import KE.KUnpackStar
import HandS.More
import HandS.Finally
import HandS.ListItems
import KE.KDictList
import OpenK.KOps
import HandS.OwnEq
import HandS.Style
import HandS.Conv
import HandS.RaiseMore
import HandS.TryOnly
import PySem.Challenge.RW_countfold_k84_numbers_for_good
set_option Elab.async false
set_option linter.all false
set_option autoImplicit false
set_option maxRecDepth 100000
set_option maxHeartbeats 4000000
/-! Ab0: what the head's run looks at (no proof of it leans on the layer, so that the run may stand first in a hand-in). -/
namespace Ab
open PySem PySem.Spec L2 PyProof.Rows
/-- a fact of the head -/
inductive Xb where
  | excC (x : Str)
  | kit1 (x y : Str) (b : Bool)
  | kitn (x : Str) (ys : List Str) (b : Bool)
  | exb (x : Str) (bs : List Value) (new : String)
  | sub (T : String) (x : Str)
  | owni (x : Str)
  | vals (x : Str) (kvs : List (Str × Int))
def exccB0 (K : PySem.W.Frag) (C : Addr) : Bool :=
  decide (PySem.W.findIn K (.ref C) "__getattribute__" = some (some (.builtin "BaseException.__getattribute__"))) && (decide (PySem.W.findIn K (.ref C) "__getattr__" = some none) &&
  (decide (PySem.W.subIn K (.ref C) (.type "BaseException") = some true) && (PySem.W.hasDictIn K C && (decide (PySem.W.findIn K (.ref C) "__class__" = some (some (.builtin "object.__class__"))) &&
  (decide (PySem.W.specialIn K (.builtin "object.__class__") "__get__" = some (some (.builtin "getset_descriptor.__get__"))) && (decide (PySem.W.takesIn K (.builtin "object.__class__") = some true) && decide (PySem.W.mroIn K C (.type "object") = some true)))))))
def owniB (K : PySem.W.Frag) (C : Addr) : Bool :=
  decide (PySem.W.findIn K (.ref C) "__class__" = some (some (.builtin "object.__class__"))) && (decide (PySem.W.specialIn K (.builtin "object.__class__") "__get__" = some (some (.builtin "getset_descriptor.__get__"))) &&
  (decide (PySem.W.takesIn K (.builtin "object.__class__") = some true) && (decide (PySem.W.mroIn K C (.type "object") = some true) && (decide (PySem.W.kitOne K (.ref C) (.ref C) = some true) &&
  (decide (PySem.W.kitOne K (.type "int") (.ref C) = some false) && (decide (PySem.W.kitOne K (.type "str") (.ref C) = some false) && decide (PySem.W.kitOne K (.type "dict") (.ref C) = some false)))))))
def Xb.ok (K : PySem.W.Frag) : Xb → Bool
  | .excC x => exccB0 K (He.ga K x)
  | .kit1 x y b => decide (PySem.W.kitOne K (.ref (He.ga K x)) (.ref (He.ga K y)) = some b)
  | .kitn x ys b => decide (PySem.W.kitAny K (.ref (He.ga K x)) (ys.map fun y => Value.ref (He.ga K y)) = some b)
  | .exb x bs new => PySem.W.excIn K (He.ga K x) bs new && (PySem.W.keepIn K (.ref (He.ga K x)) && (decide (PySem.W.subIn K (.ref (He.ga K x)) (.type "BaseException") = some true) && decide (PySem.W.typeIn K (.ref (He.ga K x)) = some (.type "type"))))
  | .sub T x => decide (PySem.W.subIn K (.type T) (.ref (He.ga K x)) = some false)
  | .owni x => owniB K (He.ga K x)
  | .vals x kvs => He.valsB K (He.ga K x) (kvs.map fun q => (q.1, He.Dv.int q.2))
abbrev AlY : Type := Bool × He.AlT
def obsY (xs : List Xb) (fa : List He.Fa) (fn : List He.DefD) (ts : List He.Tab) (K : PySem.W.Frag) : AlY := (xs.all fun x => x.ok K, He.obsT fa fn ts K)
def valY (fn : List He.DefD) (ts : List He.Tab) (w : World) : AlY := (true, He.valT fn ts w)
def obsYG (n : Nat) (xs : List Xb) (fa : List He.Fa) (fn : List He.DefD) (ts : List He.Tab) (g : Addr → Option Obj) : AlY := obsY xs fa fn ts (He.frG g (He.asD g n))
def hookY (n : Nat) (xs : List Xb) (fa : List He.Fa) (fn : List He.DefD) (ts : List He.Tab) : PySem.W.Hook where
  α := AlY
  obs := fun s => obsYG n xs fa fn ts s.heap.get?
  val := fun w => valY fn ts w
  says := fun w h => ∃ K : PySem.W.Frag, K.In h ∧ (xs.all fun x => x.ok K) = true ∧ He.SaysT fa fn ts w K
  of := fun _ _ e => ⟨_, He.frG_in, congrArg (fun z : AlY => z.1) e, congrArg (fun z : AlY => z.2) e⟩
  keeps := fun _ _ _ ⟨K, hK, c⟩ k => ⟨K, PySem.W.Frag.In.keeps hK k, c⟩
theorem obsYG_eq {n : Nat} {xs : List Xb} {fa : List He.Fa} {fn : List He.DefD} {ts : List He.Tab} {g : Addr → Option Obj} {s : Shared} (h : ∀ a, g a = s.heap.get? a) : obsYG n xs fa fn ts g = (hookY n xs fa fn ts).obs s := by
  have e : g = s.heap.get? := funext h
  rw [e] <;> rfl
/-- a table of the module -/
def tabD (x : Str) (kvs : List (Str × Int)) : He.Tab := (fun K => He.ga K x, kvs.map (·.1))
end Ab
set_option maxRecDepth 100000
set_option maxHeartbeats 0
namespace K84a
open PySem PySem.Spec L2 PyProof.Rows Ab
def topS (i : Nat) : Stmt := PySem.Challenge.pw_countfold_k84_numbers_for_good.main.body.getD i (.Pass ⟨0, 0, 0, 0⟩)
abbrev veB : List Value := [.type "ValueError", .type "Exception", .type "BaseException", .type "object"]
abbrev leB : List Value := [.type "LookupError", .type "Exception", .type "BaseException", .type "object"]
def d_is_whole : He.DefD := ⟨("is_whole", none), "is_whole", "is_whole", defArgs (topS 14), defBody (topS 14), defScope (topS 14), [], [("least", .non), ("most", .non)]⟩
def d_is_name : He.DefD := ⟨("is_name", none), "is_name", "is_name", defArgs (topS 15), defBody (topS 15), defScope (topS 15), [], []⟩
def d_are_names : He.DefD := ⟨("are_names", none), "are_names", "are_names", defArgs (topS 16), defBody (topS 16), defScope (topS 16), [], []⟩
def d_Talk_init : He.DefD := ⟨("Talk", some "__init__"), "__init__", "Talk.__init__", defArgs (inClass (topS 43) 0), defBody (inClass (topS 43) 0), defScope (inClass (topS 43) 0), [.adr (He.dflAt ("Talk", some "__init__") 0), .adr (He.dflAt ("Talk", some "__init__") 1)], [("most", .int 12)]⟩
def d_Talk_sets : He.DefD := ⟨("Talk", some "sets"), "sets", "Talk.sets", defArgs (inClass (topS 43) 1), defBody (inClass (topS 43) 1), defScope (inClass (topS 43) 1), [], []⟩
def d_Talk_numbers : He.DefD := ⟨("Talk", some "numbers"), "numbers", "Talk.numbers", defArgs (inClass (topS 43) 2), defBody (inClass (topS 43) 2), defScope (inClass (topS 43) 2), [], []⟩
def d_Talk_eq : He.DefD := ⟨("Talk", some "__eq__"), "__eq__", "Talk.__eq__", defArgs (inClass (topS 43) 10), defBody (inClass (topS 43) 10), defScope (inClass (topS 43) 10), [], []⟩
def d_parts_of : He.DefD := ⟨("parts_of", none), "parts_of", "parts_of", defArgs (topS 21), defBody (topS 21), defScope (topS 21), [], []⟩
def d_is_term : He.DefD := ⟨("is_term", none), "is_term", "is_term", defArgs (topS 22), defBody (topS 22), defScope (topS 22), [], []⟩
def d_is_addend : He.DefD := ⟨("is_addend", none), "is_addend", "is_addend", defArgs (topS 25), defBody (topS 25), defScope (topS 25), [], []⟩
def d_is_sum : He.DefD := ⟨("is_sum", none), "is_sum", "is_sum", defArgs (topS 26), defBody (topS 26), defScope (topS 26), [], []⟩
def d_counts_of : He.DefD := ⟨("counts_of", none), "counts_of", "counts_of", defArgs (topS 28), defBody (topS 28), defScope (topS 28), [], []⟩
def d_cases_many : He.DefD := ⟨("cases_many", none), "cases_many", "cases_many", defArgs (topS 29), defBody (topS 29), defScope (topS 29), [], [("turned", .bl false)]⟩
def d_is_plain : He.DefD := ⟨("is_plain", none), "is_plain", "is_plain", defArgs (topS 34), defBody (topS 34), defScope (topS 34), [], []⟩
def d_words_in : He.DefD := ⟨("words_in", none), "words_in", "words_in", defArgs (topS 35), defBody (topS 35), defScope (topS 35), [], []⟩
def d_is_saying : He.DefD := ⟨("is_saying", none), "is_saying", "is_saying", defArgs (topS 36), defBody (topS 36), defScope (topS 36), [], []⟩
def d_Store_init : He.DefD := ⟨("Store", some "__init__"), "__init__", "Store.__init__", defArgs (inClass (topS 39) 0), defBody (inClass (topS 39) 0), defScope (inClass (topS 39) 0), [], []⟩
def d_Store_all_said : He.DefD := ⟨("Store", some "all_said"), "all_said", "Store.all_said", defArgs (inClass (topS 39) 1), defBody (inClass (topS 39) 1), defScope (inClass (topS 39) 1), [], []⟩
def d_Store_put_in : He.DefD := ⟨("Store", some "put_in"), "put_in", "Store.put_in", defArgs (inClass (topS 39) 2), defBody (inClass (topS 39) 2), defScope (inClass (topS 39) 2), [], []⟩
def d_Store_say : He.DefD := ⟨("Store", some "say"), "say", "Store.say", defArgs (inClass (topS 39) 3), defBody (inClass (topS 39) 3), defScope (inClass (topS 39) 3), [], []⟩
def d_Store_say_all : He.DefD := ⟨("Store", some "say_all"), "say_all", "Store.say_all", defArgs (inClass (topS 39) 4), defBody (inClass (topS 39) 4), defScope (inClass (topS 39) 4), [], []⟩
def d_Store_drop : He.DefD := ⟨("Store", some "drop"), "drop", "Store.drop", defArgs (inClass (topS 39) 5), defBody (inClass (topS 39) 5), defScope (inClass (topS 39) 5), [], []⟩
def d_Store_mark : He.DefD := ⟨("Store", some "mark"), "mark", "Store.mark", defArgs (inClass (topS 39) 6), defBody (inClass (topS 39) 6), defScope (inClass (topS 39) 6), [], []⟩
def d_Store_back : He.DefD := ⟨("Store", some "back"), "back", "Store.back", defArgs (inClass (topS 39) 7), defBody (inClass (topS 39) 7), defScope (inClass (topS 39) 7), [], []⟩
def d_Store_standing : He.DefD := ⟨("Store", some "standing"), "standing", "Store.standing", defArgs (inClass (topS 39) 13), defBody (inClass (topS 39) 13), defScope (inClass (topS 39) 13), [], []⟩
def d_Store_log : He.DefD := ⟨("Store", some "log"), "log", "Store.log", defArgs (inClass (topS 39) 14), defBody (inClass (topS 39) 14), defScope (inClass (topS 39) 14), [], []⟩
def d_Store_talk : He.DefD := ⟨("Store", some "talk"), "talk", "Store.talk", defArgs (inClass (topS 39) 15), defBody (inClass (topS 39) 15), defScope (inClass (topS 39) 15), [], []⟩
def d_Store_twin : He.DefD := ⟨("Store", some "twin"), "twin", "Store.twin", defArgs (inClass (topS 39) 16), defBody (inClass (topS 39) 16), defScope (inClass (topS 39) 16), [], []⟩
def d_Store_eq : He.DefD := ⟨("Store", some "__eq__"), "__eq__", "Store.__eq__", defArgs (inClass (topS 39) 17), defBody (inClass (topS 39) 17), defScope (inClass (topS 39) 17), [], []⟩
def d_Store_len : He.DefD := ⟨("Store", some "__len__"), "__len__", "Store.__len__", defArgs (inClass (topS 39) 18), defBody (inClass (topS 39) 18), defScope (inClass (topS 39) 18), [], []⟩
def d_Store_repr : He.DefD := ⟨("Store", some "__repr__"), "__repr__", "Store.__repr__", defArgs (inClass (topS 39) 19), defBody (inClass (topS 39) 19), defScope (inClass (topS 39) 19), [], []⟩
def d_l_pool : He.DefD := ⟨("_law_pool", none), "_law_pool", "_law_pool", defArgs (topS 45), defBody (topS 45), defScope (topS 45), [], []⟩
def d_l_take : He.DefD := ⟨("_law_take", none), "_law_take", "_law_take", defArgs (topS 46), defBody (topS 46), defScope (topS 46), [], []⟩
def d_l_names : He.DefD := ⟨("_law_names", none), "_law_names", "_law_names", defArgs (topS 47), defBody (topS 47), defScope (topS 47), [], []⟩
def d_l_tongue : He.DefD := ⟨("_law_tongue", none), "_law_tongue", "_law_tongue", defArgs (topS 48), defBody (topS 48), defScope (topS 48), [], []⟩
def d_l_signed : He.DefD := ⟨("_law_signed", none), "_law_signed", "_law_signed", defArgs (topS 49), defBody (topS 49), defScope (topS 49), [], []⟩
def d_l_term : He.DefD := ⟨("_law_term", none), "_law_term", "_law_term", defArgs (topS 50), defBody (topS 50), defScope (topS 50), [], []⟩
def d_l_sum : He.DefD := ⟨("_law_sum", none), "_law_sum", "_law_sum", defArgs (topS 51), defBody (topS 51), defScope (topS 51), [], []⟩
def d_l_leaf : He.DefD := ⟨("_law_leaf", none), "_law_leaf", "_law_leaf", defArgs (topS 52), defBody (topS 52), defScope (topS 52), [], []⟩
def d_l_saying : He.DefD := ⟨("_law_saying", none), "_law_saying", "_law_saying", defArgs (topS 53), defBody (topS 53), defScope (topS 53), [], []⟩
def d_l_cases_many : He.DefD := ⟨("_law_cases_many", none), "_law_cases_many", "_law_cases_many", defArgs (topS 54), defBody (topS 54), defScope (topS 54), [], []⟩
def d_l_cases_all : He.DefD := ⟨("_law_cases_all", none), "_law_cases_all", "_law_cases_all", defArgs (topS 55), defBody (topS 55), defScope (topS 55), [], []⟩
def d_l_model : He.DefD := ⟨("_law_model", none), "_law_model", "_law_model", defArgs (topS 56), defBody (topS 56), defScope (topS 56), [], []⟩
def d_l_look : He.DefD := ⟨("_law_look", none), "_law_look", "_law_look", defArgs (topS 57), defBody (topS 57), defScope (topS 57), [], []⟩
def d_l_copy : He.DefD := ⟨("_law_copy", none), "_law_copy", "_law_copy", defArgs (topS 58), defBody (topS 58), defScope (topS 58), [], []⟩
def d_l_alike : He.DefD := ⟨("_law_alike", none), "_law_alike", "_law_alike", defArgs (topS 59), defBody (topS 59), defScope (topS 59), [], []⟩
def d_l_claims : He.DefD := ⟨("_law_claims", none), "_law_claims", "_law_claims", defArgs (topS 60), defBody (topS 60), defScope (topS 60), [], []⟩
def d_l_step : He.DefD := ⟨("_law_step", none), "_law_step", "_law_step", defArgs (topS 61), defBody (topS 61), defScope (topS 61), [], []⟩
def d_l_turn : He.DefD := ⟨("_law_turn", none), "_law_turn", "_law_turn", defArgs (topS 62), defBody (topS 62), defScope (topS 62), [], []⟩
def d_law : He.DefD := ⟨("law", none), "law", "law", defArgs (topS 63), defBody (topS 63), defScope (topS 63), [], []⟩
def fn : List He.DefD := [d_is_whole, d_is_name, d_are_names, d_Talk_init, d_Talk_sets, d_Talk_numbers, d_Talk_eq, d_parts_of, d_is_term, d_is_addend, d_is_sum, d_counts_of, d_cases_many, d_is_plain, d_words_in, d_is_saying, d_Store_init, d_Store_all_said, d_Store_put_in, d_Store_say, d_Store_say_all, d_Store_drop, d_Store_mark, d_Store_back, d_Store_standing, d_Store_log, d_Store_talk, d_Store_twin, d_Store_eq, d_Store_len, d_Store_repr, d_l_pool, d_l_take, d_l_names, d_l_tongue, d_l_signed, d_l_term, d_l_sum, d_l_leaf, d_l_saying, d_l_cases_many, d_l_cases_all, d_l_model, d_l_look, d_l_copy, d_l_alike, d_l_claims, d_l_step, d_l_turn, d_law]
def tabL0 : List (Str × Int) := [("none", 0), ("all", 0), ("not", 1), ("and", 2), ("or", 2), ("but", 2)]
def tabL1 : List (Str × Int) := [("not", 1), ("both", 2), ("either", 2)]
abbrev fa0 : List He.Fa := [.cls "Store", .cls "Talk", .free "all", .free "any", .free "bool", .free "dict", .free "int", .free "isinstance", .free "len", .free "list", .free "max", .free "min", .free "range", .free "repr", .free "sorted", .free "str", .free "sum", .free "tuple", .free "zip", .int "ADDENDS" 12, .int "DEEPEST" 12, .int "DEPTH" 6, .str "LETTERS" "abcdefghijklmnopqrstuvwxyz", .int "LONGEST" 8, .int "MANY" 32, .int "MOST_NUMBERS" 2, .int "MOST_PARTS" 100, .int "MOST_SETS" 3, .int "STANDING" 12, .int "WORDS_sayings" 24]
abbrev fa1 : List He.Fa := [.glo "JOINS", .glo "NoTalk", .glo "Store", .glo "Talk", .glo "WORDS_terms", .noat "Store" "laid", .noat "Store" "piles", .noat "Store" "said", .noat "Store" "spent", .noat "Store" "spoken_in", .noat "Talk" "number_names", .noat "Talk" "set_names", .noat "Talk" "top", .glo "law", .glo "is_whole", .glo "is_name", .glo "are_names", .mkr "Talk", .meth "Talk" "sets", .meth "Talk" "numbers", .meth "Talk" "__eq__", .glo "parts_of", .glo "is_term", .glo "is_addend", .glo "is_sum", .glo "counts_of", .glo "cases_many", .glo "is_plain", .glo "words_in", .glo "is_saying"]
abbrev fa2 : List He.Fa := [.mkr "Store", .meth "Store" "all_said", .meth "Store" "put_in", .meth "Store" "say", .meth "Store" "say_all", .meth "Store" "drop", .meth "Store" "mark", .meth "Store" "back", .meth "Store" "standing", .meth "Store" "log", .meth "Store" "talk", .meth "Store" "twin", .meth "Store" "__eq__", .meth "Store" "__len__", .meth "Store" "__repr__", .glo "_law_pool", .glo "_law_take", .glo "_law_names", .glo "_law_tongue", .glo "_law_signed", .glo "_law_term", .glo "_law_sum", .glo "_law_leaf", .glo "_law_saying", .glo "_law_cases_many", .glo "_law_cases_all", .glo "_law_model", .glo "_law_look", .glo "_law_copy", .glo "_law_alike"]
abbrev fa3 : List He.Fa := [.glo "_law_claims", .glo "_law_step", .glo "_law_turn"]
abbrev fa : List He.Fa := fa0 ++ fa1 ++ fa2 ++ fa3
def xs : List Xb := [.vals "WORDS_terms" tabL0, .vals "JOINS" tabL1, .owni "Store", .owni "Talk", .sub "int" "Store", .sub "str" "Store", .sub "dict" "Store", .sub "int" "Talk", .sub "str" "Talk", .sub "dict" "Talk", .exb "NoTalk" veB "ValueError.__new__"]
abbrev R : PySem.W.OpenRow := PySem.W.OpenLaw.row PySem.Challenge.rw_countfold_k84_numbers_for_good
def tsL : List He.Tab := [tabD "WORDS_terms" tabL0, tabD "JOINS" tabL1]
abbrev hk : PySem.W.Hook := hookY 5 xs fa fn tsL
def ob (s : PySem.W.SharedT) : AlY := obsYG 5 xs fa fn tsL (HandSHeadRun.getT s)
theorem ob_eq (s : PySem.W.SharedT) : ob s = hk.obs s.abs := obsYG_eq (HandSHeadRun.getT_eq s)
def loose0 : List PySem.Str := ["_wall", "FoldError", "NoTalk", "NoMark", "TooMany", "NoSaying", "LackError", "NoNumber", "MOST", "MANY", "LETTERS", "LONGEST", "is_whole", "is_name", "are_names", "WORDS_terms", "DEEPEST", "MOST_PARTS", "parts_of", "is_term", "ADDENDS", "is_addend", "is_sum", "counts_of", "cases_many", "DEPTH", "WORDS_sayings", "JOINS", "is_plain", "words_in"]
def loose1 : List PySem.Str := ["is_saying", "STANDING", "Store", "MOST_SETS", "MOST_NUMBERS", "Talk", "_law_pool", "_law_take", "_law_names", "_law_tongue", "_law_signed", "_law_term", "_law_sum", "_law_leaf", "_law_saying", "_law_cases_many", "_law_cases_all", "_law_model", "_law_look", "_law_copy", "_law_alike", "_law_claims", "_law_step", "_law_turn"]
def loose : List PySem.Str := loose0 ++ loose1
theorem run_f (w : World) : HandSHeadRun.RunEq R (PySem.W.view R.prog [63]) hk ob 12000 loose (w.withFollow "special-get-raises" false) := by
  intro os
  kernel_rfl
theorem run_t (w : World) : HandSHeadRun.RunEq R (PySem.W.view R.prog [63]) hk ob 12000 loose (w.withFollow "special-get-raises" true) := by
  intro os
  kernel_rfl
theorem run (w : World) : HandSHeadRun.RunEq R (PySem.W.view R.prog [63]) hk ob 12000 loose w := PySem.W.byRow2 "special-get-raises" (P := fun w => HandSHeadRun.RunEq R (PySem.W.view R.prog [63]) hk ob 12000 loose w) run_f run_t w
end K84a
set_option maxRecDepth 100000
set_option maxHeartbeats 2000000
/-! Ab1: data D, what stands for it in a heap, steps of heaps, meanings of expressions and statements over data. -/
namespace Ab
open PySem L2

/-- an exception object of the class at C, caught and kept -/
def ExK (C a : Addr) : HO := .ext fun h => ∃ (oe : Obj) (vs : Array Value), h.get? a = some oe ∧ Zc (.ref C) none oe ∧ oe.data = .fields vs

/-- data: what a value stands for -/
inductive D where
  | non | bl (b : Bool) | int (i : Int) | str (s : Str) | ty (n : String) | ref (a : Addr)
  | tup (l : List D) | tpn (l : List D) | lst (l : List D) | lsk (l : List D) | obj (C : Addr) (fs : List (Str × D)) | dic (kvs : List (Key × D)) | exc (C : Addr)
  deriving Inhabited

/-- an object that may change -/
inductive MO where
  | lst (l : List D)
  | ins (C : Addr) (fs : List (Str × D))
  | dK (kvs : List (Key × D))
  | lk (o : Obj) (ws : List (Key × V)) (kvs : List (Key × D))
  | any (o : HO)

abbrev Mem := List (Addr × MO)
abbrev Rho := List (Option D)
def dom (M : Mem) : List Addr := M.map (·.1)

/-- the addresses that may change, or are reserved -/
abbrev um (F : List Addr) (M : Mem) : List Addr := dom M ++ F
mutual
inductive DV (K : PySem.W.Frag) (H : Hp) (U : List Addr) : V → D → Prop
  | non : DV K H U .non .non
  | bl (b : Bool) : DV K H U (.bl b) (.bl b)
  | int (i : Int) : DV K H U (.int i) (.int i)
  | str (s : Str) : DV K H U (.str s) (.str s)
  | ty (n : String) : DV K H U (.ty n) (.ty n)
  | ref (a : Addr) : DV K H U (.ref a) (.ref a)
  | tup {a : Addr} {xs : List V} {ds : List D} : Rd H a (.tup xs) → a ∉ U → DVs K H U xs ds → DV K H U (.ref a) (.tup ds)
  | tupK {a : Addr} {xs : List V} {ds : List D} : (∀ H', SqT K H' a xs) → DVs K H U xs ds → DV K H U (.ref a) (.tup ds)
  | tpn {a : Addr} {o : Obj} {xs : List V} {ds : List D} : H a = some (.frz o (.tup xs)) → o.dict = none → a ∉ U → DVs K H U xs ds → DV K H U (.ref a) (.tpn ds)
  | tpnK {a : Addr} {o : Obj} {xs : List V} {ds : List D} : K.lookup a = some o → o.cls = .type "tuple" → o.dict = none → (∀ H', SqT K H' a xs) → DVs K H U xs ds → DV K H U (.ref a) (.tpn ds)
  | exc {a C : Addr} : H a = some (ExK C a) → a ∉ U → DV K H U (.ref a) (.exc C)
  | lst {a : Addr} {xs : List V} {ds : List D} : H a = some (.lst xs) → a ∉ U → DVs K H U xs ds → DV K H U (.ref a) (.lst ds)
  | lsk {a : Addr} {xs : List V} {ds : List D} : Rd H a (.lst xs) → a ∉ U → DVs K H U xs ds → DV K H U (.ref a) (.lsk ds)
  | lskK {a : Addr} {xs : List V} {ds : List D} : (∀ H', SqL K H' a xs) → DVs K H U xs ds → DV K H U (.ref a) (.lsk ds)
  | obj {a C dx : Addr} {fs : List (Str × V)} {gs : List (Str × D)} : H a = some (.ins C dx fs) → a ∉ U → DFs K H U fs gs → DV K H U (.ref a) (.obj C gs)
  | dic {a : Addr} {fs : List (Key × V)} {gs : List (Key × D)} : H a = some (.dK fs) → a ∉ U → DKs K H U fs gs → DV K H U (.ref a) (.dic gs)
inductive DVs (K : PySem.W.Frag) (H : Hp) (U : List Addr) : List V → List D → Prop
  | nil : DVs K H U [] []
  | cons {v : V} {vs : List V} {d : D} {ds : List D} : DV K H U v d → DVs K H U vs ds → DVs K H U (v :: vs) (d :: ds)
inductive DFs (K : PySem.W.Frag) (H : Hp) (U : List Addr) : List (Str × V) → List (Str × D) → Prop
  | nil : DFs K H U [] []
  | cons {x : Str} {v : V} {vs : List (Str × V)} {d : D} {ds : List (Str × D)} : DV K H U v d → DFs K H U vs ds → DFs K H U ((x, v) :: vs) ((x, d) :: ds)
inductive DKs (K : PySem.W.Frag) (H : Hp) (U : List Addr) : List (Key × V) → List (Key × D) → Prop
  | nil : DKs K H U [] []
  | cons {x : Key} {v : V} {vs : List (Key × V)} {d : D} {ds : List (Key × D)} : DV K H U v d → DKs K H U vs ds → DKs K H U ((x, v) :: vs) ((x, d) :: ds)
end

/-- from (H, M) to (H', M'): what is tracked and not in M stays; what is in M' was in M or is new -/
structure Step (H : Hp) (M : Mem) (H' : Hp) (M' : Mem) : Prop where
  keep : ∀ b o, b ∉ dom M → H b = some o → H' b = some o
  new : ∀ b, b ∈ dom M' → b ∈ dom M ∨ H b = none
theorem Step.refl (H : Hp) (M : Mem) : Step H M H M := ⟨fun _ _ _ h => h, fun _ h => Or.inl h⟩
theorem Step.out {H H' : Hp} {M M' : Mem} (a : Step H M H' M') {b : Addr} {o : HO} (hb : b ∉ dom M) (h : H b = some o) : b ∉ dom M' := fun hm => by
  rcases a.new b hm with q | q
  · exact hb q
  · rw [h] at q; cases q
theorem Step.trans {H H1 H2 : Hp} {M M1 M2 : Mem} (a : Step H M H1 M1) (b : Step H1 M1 H2 M2) : Step H M H2 M2 :=
  ⟨fun c o hc h => b.keep c o (a.out hc h) (a.keep c o hc h), fun c hc => by
    by_cases hm : c ∈ dom M
    · exact Or.inl hm
    · right
      cases q : H c with
      | none => rfl
      | some o =>
        rcases b.new c hc with z | z
        · exact absurd z (a.out hm q)
        · rw [a.keep c o hm q] at z; cases z⟩

/-- what is reserved further was not tracked -/
def FrGo (H : Hp) (F F' : List Addr) : Prop := ∀ b ∈ F', b ∈ F ∨ H b = none
theorem FrGo.refl {H : Hp} {F : List Addr} : FrGo H F F := fun _ h => Or.inl h
theorem Step.keepU {H H' : Hp} {M M' : Mem} {F : List Addr} (s : Step H M H' M') {a : Addr} {u : HO} (h : H a = some u) (hn : a ∉ um F M) : H' a = some u := s.keep _ _ (fun z => hn (List.mem_append_left _ z)) h
theorem Step.outU {H H' : Hp} {M M' : Mem} {F F' : List Addr} (s : Step H M H' M') (f : FrGo H F F') {a : Addr} {u : HO} (h : H a = some u) (hn : a ∉ um F M) : a ∉ um F' M' := fun z => by
  rcases List.mem_append.mp z with z | z
  · exact s.out (fun y => hn (List.mem_append_left _ y)) h z
  · rcases f a z with q | q
    · exact hn (List.mem_append_right _ q)
    · rw [h] at q; cases q
theorem Step.rd {H H' : Hp} {M M' : Mem} {F : List Addr} (s : Step H M H' M') {a : Addr} {u : HO} (h : Rd H a u) (hn : a ∉ um F M) : Rd H' a u := by
  rcases h with h | ⟨o, h⟩
  · exact Or.inl (s.keepU h hn)
  · exact Or.inr ⟨o, s.keepU h hn⟩
theorem Step.rdOut {H H' : Hp} {M M' : Mem} {F F' : List Addr} (s : Step H M H' M') (f : FrGo H F F') {a : Addr} {u : HO} (h : Rd H a u) (hn : a ∉ um F M) : a ∉ um F' M' := by
  rcases h with h | ⟨o, h⟩
  · exact s.outU f h hn
  · exact s.outU f h hn

/-- .. what is reserved may change too -/
structure StepX (F : List Addr) (H : Hp) (M : Mem) (H' : Hp) (M' : Mem) : Prop where
  keep : ∀ b o, b ∉ um F M → H b = some o → H' b = some o
  new : ∀ b, b ∈ dom M' → b ∈ um F M ∨ H b = none
theorem Step.toX {H H' : Hp} {M M' : Mem} {F : List Addr} (s : Step H M H' M') : StepX F H M H' M' := ⟨fun b o hb e => s.keepU e hb, fun b hb => (s.new b hb).imp (fun z => List.mem_append_left _ z) _root_.id⟩
theorem StepX.keepU {H H' : Hp} {M M' : Mem} {F : List Addr} (s : StepX F H M H' M') {a : Addr} {u : HO} (h : H a = some u) (hn : a ∉ um F M) : H' a = some u := s.keep _ _ hn h
theorem StepX.outU {H H' : Hp} {M M' : Mem} {F F' : List Addr} (s : StepX F H M H' M') (f : FrGo H F F') {a : Addr} {u : HO} (h : H a = some u) (hn : a ∉ um F M) : a ∉ um F' M' := fun z => by
  rcases List.mem_append.mp z with z | z
  · rcases s.new a z with q | q
    · exact hn q
    · rw [h] at q; cases q
  · rcases f a z with q | q
    · exact hn (List.mem_append_right _ q)
    · rw [h] at q; cases q
theorem StepX.rd {H H' : Hp} {M M' : Mem} {F : List Addr} (s : StepX F H M H' M') {a : Addr} {u : HO} (h : Rd H a u) (hn : a ∉ um F M) : Rd H' a u := by
  rcases h with h | ⟨o, h⟩
  · exact Or.inl (s.keepU h hn)
  · exact Or.inr ⟨o, s.keepU h hn⟩
theorem StepX.rdOut {H H' : Hp} {M M' : Mem} {F F' : List Addr} (s : StepX F H M H' M') (f : FrGo H F F') {a : Addr} {u : HO} (h : Rd H a u) (hn : a ∉ um F M) : a ∉ um F' M' := by
  rcases h with h | ⟨o, h⟩
  · exact s.outU f h hn
  · exact s.outU f h hn
mutual
theorem DV.step2X {K : PySem.W.Frag} {H H' : Hp} {M M' : Mem} {F F' : List Addr} (s : StepX F H M H' M') (f : FrGo H F F') : ∀ {v : V} {d : D}, DV K H (um F M) v d → DV K H' (um F' M') v d
  | _, _, .non => .non
  | _, _, .bl b => .bl b
  | _, _, .int i => .int i
  | _, _, .str x => .str x
  | _, _, .ty n => .ty n
  | _, _, .ref a => .ref a
  | _, _, .tup h hn t => .tup (s.rd h hn) (s.rdOut f h hn) (DVs.step2X s f t)
  | _, _, .tupK h t => .tupK h (DVs.step2X s f t)
  | _, _, .lst h hn t => .lst (s.keepU h hn) (s.outU f h hn) (DVs.step2X s f t)
  | _, _, .lsk h hn t => .lsk (s.rd h hn) (s.rdOut f h hn) (DVs.step2X s f t)
  | _, _, .lskK h t => .lskK h (DVs.step2X s f t)
  | _, _, .tpn h hd hn t => .tpn (s.keepU h hn) hd (s.outU f h hn) (DVs.step2X s f t)
  | _, _, .tpnK h1 h2 h3 h t => .tpnK h1 h2 h3 h (DVs.step2X s f t)
  | _, _, .exc h hn => .exc (s.keepU h hn) (s.outU f h hn)
  | _, _, .obj h hn t => .obj (s.keepU h hn) (s.outU f h hn) (DFs.step2X s f t)
  | _, _, .dic h hn t => .dic (s.keepU h hn) (s.outU f h hn) (DKs.step2X s f t)
theorem DVs.step2X {K : PySem.W.Frag} {H H' : Hp} {M M' : Mem} {F F' : List Addr} (s : StepX F H M H' M') (f : FrGo H F F') : ∀ {v : List V} {d : List D}, DVs K H (um F M) v d → DVs K H' (um F' M') v d
  | _, _, .nil => .nil
  | _, _, .cons a b => .cons (DV.step2X s f a) (DVs.step2X s f b)
theorem DFs.step2X {K : PySem.W.Frag} {H H' : Hp} {M M' : Mem} {F F' : List Addr} (s : StepX F H M H' M') (f : FrGo H F F') : ∀ {v : List (Str × V)} {d : List (Str × D)}, DFs K H (um F M) v d → DFs K H' (um F' M') v d
  | _, _, .nil => .nil
  | _, _, .cons a b => .cons (DV.step2X s f a) (DFs.step2X s f b)
theorem DKs.step2X {K : PySem.W.Frag} {H H' : Hp} {M M' : Mem} {F F' : List Addr} (s : StepX F H M H' M') (f : FrGo H F F') : ∀ {v : List (Key × V)} {d : List (Key × D)}, DKs K H (um F M) v d → DKs K H' (um F' M') v d
  | _, _, .nil => .nil
  | _, _, .cons a b => .cons (DV.step2X s f a) (DKs.step2X s f b)
end
theorem DV.step2 {K : PySem.W.Frag} {H H' : Hp} {M M' : Mem} {F F' : List Addr} (s : Step H M H' M') (f : FrGo H F F') {v : V} {d : D} (h : DV K H (um F M) v d) : DV K H' (um F' M') v d := h.step2X s.toX f
theorem DVs.step2 {K : PySem.W.Frag} {H H' : Hp} {M M' : Mem} {F F' : List Addr} (s : Step H M H' M') (f : FrGo H F F') {v : List V} {d : List D} (h : DVs K H (um F M) v d) : DVs K H' (um F' M') v d := h.step2X s.toX f
theorem DFs.step2 {K : PySem.W.Frag} {H H' : Hp} {M M' : Mem} {F F' : List Addr} (s : Step H M H' M') (f : FrGo H F F') {v : List (Str × V)} {d : List (Str × D)} (h : DFs K H (um F M) v d) : DFs K H' (um F' M') v d := h.step2X s.toX f
theorem DKs.step2 {K : PySem.W.Frag} {H H' : Hp} {M M' : Mem} {F F' : List Addr} (s : Step H M H' M') (f : FrGo H F F') {v : List (Key × V)} {d : List (Key × D)} (h : DKs K H (um F M) v d) : DKs K H' (um F' M') v d := h.step2X s.toX f
theorem DV.step {K : PySem.W.Frag} {H H' : Hp} {M M' : Mem} {F : List Addr} (s : Step H M H' M') {v : V} {d : D} (h : DV K H (um F M) v d) : DV K H' (um F M') v d := h.step2 s FrGo.refl
theorem DVs.step {K : PySem.W.Frag} {H H' : Hp} {M M' : Mem} {F : List Addr} (s : Step H M H' M') {v : List V} {d : List D} (h : DVs K H (um F M) v d) : DVs K H' (um F M') v d := h.step2 s FrGo.refl
theorem DKs.step {K : PySem.W.Frag} {H H' : Hp} {M M' : Mem} {F : List Addr} (s : Step H M H' M') {v : List (Key × V)} {d : List (Key × D)} (h : DKs K H (um F M) v d) : DKs K H' (um F M') v d := h.step2 s FrGo.refl
theorem DFs.step {K : PySem.W.Frag} {H H' : Hp} {M M' : Mem} {F : List Addr} (s : Step H M H' M') {v : List (Str × V)} {d : List (Str × D)} (h : DFs K H (um F M) v d) : DFs K H' (um F M') v d := h.step2 s FrGo.refl
mutual
theorem DV.anti {K : PySem.W.Frag} {H : Hp} {U U' : List Addr} (f : ∀ a ∈ U', a ∈ U) : ∀ {v : V} {d : D}, DV K H U v d → DV K H U' v d
  | _, _, .non => .non
  | _, _, .bl b => .bl b
  | _, _, .int i => .int i
  | _, _, .str x => .str x
  | _, _, .ty n => .ty n
  | _, _, .ref a => .ref a
  | _, _, .tup h hn t => .tup h (fun z => hn (f _ z)) (DVs.anti f t)
  | _, _, .tupK h t => .tupK h (DVs.anti f t)
  | _, _, .lst h hn t => .lst h (fun z => hn (f _ z)) (DVs.anti f t)
  | _, _, .lsk h hn t => .lsk h (fun z => hn (f _ z)) (DVs.anti f t)
  | _, _, .lskK h t => .lskK h (DVs.anti f t)
  | _, _, .tpn h hd hn t => .tpn h hd (fun z => hn (f _ z)) (DVs.anti f t)
  | _, _, .tpnK h1 h2 h3 h t => .tpnK h1 h2 h3 h (DVs.anti f t)
  | _, _, .exc h hn => .exc h (fun z => hn (f _ z))
  | _, _, .obj h hn t => .obj h (fun z => hn (f _ z)) (DFs.anti f t)
  | _, _, .dic h hn t => .dic h (fun z => hn (f _ z)) (DKs.anti f t)
theorem DVs.anti {K : PySem.W.Frag} {H : Hp} {U U' : List Addr} (f : ∀ a ∈ U', a ∈ U) : ∀ {v : List V} {d : List D}, DVs K H U v d → DVs K H U' v d
  | _, _, .nil => .nil
  | _, _, .cons a b => .cons (DV.anti f a) (DVs.anti f b)
theorem DFs.anti {K : PySem.W.Frag} {H : Hp} {U U' : List Addr} (f : ∀ a ∈ U', a ∈ U) : ∀ {v : List (Str × V)} {d : List (Str × D)}, DFs K H U v d → DFs K H U' v d
  | _, _, .nil => .nil
  | _, _, .cons a b => .cons (DV.anti f a) (DFs.anti f b)
theorem DKs.anti {K : PySem.W.Frag} {H : Hp} {U U' : List Addr} (f : ∀ a ∈ U', a ∈ U) : ∀ {v : List (Key × V)} {d : List (Key × D)}, DKs K H U v d → DKs K H U' v d
  | _, _, .nil => .nil
  | _, _, .cons a b => .cons (DV.anti f a) (DKs.anti f b)
end

theorem DVs.length {K : PySem.W.Frag} {H : Hp} {U : List Addr} : ∀ {vs : List V} {ds : List D}, DVs K H U vs ds → vs.length = ds.length
  | _, _, .nil => rfl
  | _, _, .cons _ t => congrArg Nat.succ (DVs.length t)
theorem DVs.get {K : PySem.W.Frag} {H : Hp} {U : List Addr} : ∀ {vs : List V} {ds : List D} {i : Nat} {d : D}, DVs K H U vs ds → ds[i]? = some d → ∃ v, vs[i]? = some v ∧ DV K H U v d
  | _, _, 0, _, .cons a _, e => by simp at e; subst e; exact ⟨_, rfl, a⟩
  | _, _, i + 1, _, .cons _ t, e => by
    obtain ⟨v, h1, h2⟩ := DVs.get (i := i) t (by simpa using e)
    exact ⟨v, by simpa using h1, h2⟩
theorem DVs.get' {K : PySem.W.Frag} {H : Hp} {U : List Addr} : ∀ {vs : List V} {ds : List D} {i : Nat} {v : V}, DVs K H U vs ds → vs[i]? = some v → ∃ d, ds[i]? = some d ∧ DV K H U v d
  | _, _, 0, _, .cons a _, e => by simp at e; subst e; exact ⟨_, rfl, a⟩
  | _, _, i + 1, _, .cons _ t, e => by
    obtain ⟨v, h1, h2⟩ := DVs.get' (i := i) t (by simpa using e)
    exact ⟨v, by simpa using h1, h2⟩
theorem DVs.append {K : PySem.W.Frag} {H : Hp} {U : List Addr} : ∀ {vs ws : List V} {ds es : List D}, DVs K H U vs ds → DVs K H U ws es → DVs K H U (vs ++ ws) (ds ++ es)
  | _, _, _, _, .nil, s => s
  | _, _, _, _, .cons r t, s => .cons r (DVs.append t s)
theorem DVs.take {K : PySem.W.Frag} {H : Hp} {U : List Addr} : ∀ {vs : List V} {ds : List D} (n : Nat), DVs K H U vs ds → DVs K H U (vs.take n) (ds.take n)
  | _, _, 0, _ => .nil
  | _, _, _ + 1, .nil => .nil
  | _, _, n + 1, .cons r t => .cons r (DVs.take n t)
theorem DVs.drop {K : PySem.W.Frag} {H : Hp} {U : List Addr} : ∀ {vs : List V} {ds : List D} (n : Nat), DVs K H U vs ds → DVs K H U (vs.drop n) (ds.drop n)
  | _, _, 0, r => r
  | _, _, _ + 1, .nil => .nil
  | _, _, n + 1, .cons _ t => DVs.drop n t
theorem DVs.set {K : PySem.W.Frag} {H : Hp} {U : List Addr} {v : V} {d : D} (r : DV K H U v d) : ∀ {vs : List V} {ds : List D} (i : Nat), DVs K H U vs ds → DVs K H U (vs.set i v) (ds.set i d)
  | _, _, _, .nil => .nil
  | _, _, 0, .cons _ t => .cons r t
  | _, _, i + 1, .cons q t => .cons q (DVs.set r i t)
theorem DVs.reverse {K : PySem.W.Frag} {H : Hp} {U : List Addr} : ∀ {vs : List V} {ds : List D}, DVs K H U vs ds → DVs K H U vs.reverse ds.reverse
  | _, _, .nil => .nil
  | _, _, .cons r t => by rw [List.reverse_cons, List.reverse_cons]; exact (DVs.reverse t).append (.cons r .nil)
theorem DVs.one {K : PySem.W.Frag} {H : Hp} {U : List Addr} {v : V} {d : D} (h : DV K H U v d) : DVs K H U [v] [d] := .cons h .nil
theorem DVs.perm {K : PySem.W.Frag} {H : Hp} {U : List Addr} : ∀ {vs : List V} {ds es : List D}, ds.Perm es → DVs K H U vs ds → ∃ ws, vs.Perm ws ∧ DVs K H U ws es := by
  intro vs ds es p
  induction p generalizing vs with
  | nil => intro h; exact ⟨vs, List.Perm.refl _, h⟩
  | cons x _ ih =>
    intro h
    cases h with
    | cons a b =>
      obtain ⟨ws, p1, h1⟩ := ih b
      exact ⟨_, List.Perm.cons _ p1, .cons a h1⟩
  | swap x y l =>
    intro h
    cases h with
    | cons a b =>
      cases b with
      | cons c d => exact ⟨_, List.Perm.swap _ _ _, .cons c (.cons a d)⟩
  | trans _ _ ih1 ih2 =>
    intro h
    obtain ⟨w1, p1, h1⟩ := ih1 h
    obtain ⟨w2, p2, h2⟩ := ih2 h1
    exact ⟨w2, p1.trans p2, h2⟩
theorem DFs.look {K : PySem.W.Frag} {H : Hp} {U : List Addr} {f : Str} : ∀ {vs : List (Str × V)} {ds : List (Str × D)} {d : D}, DFs K H U vs ds → ds.lookup f = some d → ∃ v, vs.lookup f = some v ∧ DV K H U v d
  | _, _, _, .nil, e => by simp at e
  | _, _, d, .cons (x := x) a t, e => by
    rw [List.lookup_cons] at e ⊢
    cases q : (f == x) with
    | true => rw [q] at e; cases e; exact ⟨_, rfl, a⟩
    | false => rw [q] at e; exact DFs.look t e
theorem DFs.names {K : PySem.W.Frag} {H : Hp} {U : List Addr} : ∀ {vs : List (Str × V)} {ds : List (Str × D)}, DFs K H U vs ds → vs.map (·.1) = ds.map (·.1)
  | _, _, .nil => rfl
  | _, _, .cons _ t => by rw [List.map_cons, List.map_cons, DFs.names t]
theorem DFs.look_none {K : PySem.W.Frag} {H : Hp} {U : List Addr} {f : Str} : ∀ {vs : List (Str × V)} {ds : List (Str × D)}, DFs K H U vs ds → ds.lookup f = none → vs.lookup f = none
  | _, _, .nil, _ => rfl
  | _, _, .cons (x := x) a t, e => by
    rw [List.lookup_cons] at e ⊢
    cases q : (f == x) with
    | true => rw [q] at e; cases e
    | false => rw [q] at e; exact DFs.look_none t e

def MoOk (K : PySem.W.Frag) (H : Hp) (U : List Addr) (a : Addr) : MO → Prop
  | .lst ds => ∃ xs, H a = some (.lst xs) ∧ DVs K H U xs ds
  | .ins C fs => ∃ dx vs, H a = some (.ins C dx vs) ∧ DFs K H U vs fs
  | .dK kvs => ∃ vs, H a = some (.dK vs) ∧ DKs K H U vs kvs
  | .lk o ws kvs => H a = some (.frz o (.dK ws)) ∧ DKs K H U ws kvs
  | .any o => H a = some o
theorem MoOk.anti {K : PySem.W.Frag} {H : Hp} {U U' : List Addr} {a : Addr} {o : MO} (f : ∀ a ∈ U', a ∈ U) (h : MoOk K H U a o) : MoOk K H U' a o := by
  cases o with
  | lst ds =>
    obtain ⟨xs, e1, e2⟩ := h
    exact ⟨xs, e1, e2.anti f⟩
  | ins C fs =>
    obtain ⟨dx, xs, e1, e2⟩ := h
    exact ⟨dx, xs, e1, e2.anti f⟩
  | dK kvs =>
    obtain ⟨xs, e1, e2⟩ := h
    exact ⟨xs, e1, e2.anti f⟩
  | lk o ws kvs =>
    obtain ⟨e1, e2⟩ := h
    exact ⟨e1, e2.anti f⟩
  | any o => exact h
/-- what is reserved may change: data don't lean on it -/
theorem rd_upd {H : Hp} {U : List Addr} {D0 a : Addr} {o u : HO} (hD : D0 ∈ U) (hn : a ∉ U) (h : Rd H a u) : Rd (upd H D0 o) a u := by
  have ne : a ≠ D0 := fun z => hn (by rw [z]; exact hD)
  rcases h with h | ⟨w, h⟩
  · exact Or.inl (by rw [upd_ne ne]; exact h)
  · exact Or.inr ⟨w, by rw [upd_ne ne]; exact h⟩
theorem at_upd {H : Hp} {U : List Addr} {D0 a : Addr} {o u : HO} (hD : D0 ∈ U) (hn : a ∉ U) (h : H a = some u) : upd H D0 o a = some u := by
  rw [upd_ne (fun z => hn (by rw [z]; exact hD))]; exact h
mutual
theorem DV.frz {K : PySem.W.Frag} {H : Hp} {U : List Addr} {D0 : Addr} {o : HO} (hD : D0 ∈ U) : ∀ {v : V} {d : D}, DV K H U v d → DV K (upd H D0 o) U v d
  | _, _, .non => .non
  | _, _, .bl b => .bl b
  | _, _, .int i => .int i
  | _, _, .str x => .str x
  | _, _, .ty n => .ty n
  | _, _, .ref a => .ref a
  | _, _, .tup h hn t => .tup (rd_upd hD hn h) hn (DVs.frz hD t)
  | _, _, .tupK h t => .tupK h (DVs.frz hD t)
  | _, _, .lst h hn t => .lst (at_upd hD hn h) hn (DVs.frz hD t)
  | _, _, .lsk h hn t => .lsk (rd_upd hD hn h) hn (DVs.frz hD t)
  | _, _, .lskK h t => .lskK h (DVs.frz hD t)
  | _, _, .tpn h hd hn t => .tpn (at_upd hD hn h) hd hn (DVs.frz hD t)
  | _, _, .tpnK h1 h2 h3 h t => .tpnK h1 h2 h3 h (DVs.frz hD t)
  | _, _, .exc h hn => .exc (at_upd hD hn h) hn
  | _, _, .obj h hn t => .obj (at_upd hD hn h) hn (DFs.frz hD t)
  | _, _, .dic h hn t => .dic (at_upd hD hn h) hn (DKs.frz hD t)
theorem DVs.frz {K : PySem.W.Frag} {H : Hp} {U : List Addr} {D0 : Addr} {o : HO} (hD : D0 ∈ U) : ∀ {v : List V} {d : List D}, DVs K H U v d → DVs K (upd H D0 o) U v d
  | _, _, .nil => .nil
  | _, _, .cons a b => .cons (DV.frz hD a) (DVs.frz hD b)
theorem DFs.frz {K : PySem.W.Frag} {H : Hp} {U : List Addr} {D0 : Addr} {o : HO} (hD : D0 ∈ U) : ∀ {v : List (Str × V)} {d : List (Str × D)}, DFs K H U v d → DFs K (upd H D0 o) U v d
  | _, _, .nil => .nil
  | _, _, .cons a b => .cons (DV.frz hD a) (DFs.frz hD b)
theorem DKs.frz {K : PySem.W.Frag} {H : Hp} {U : List Addr} {D0 : Addr} {o : HO} (hD : D0 ∈ U) : ∀ {v : List (Key × V)} {d : List (Key × D)}, DKs K H U v d → DKs K (upd H D0 o) U v d
  | _, _, .nil => .nil
  | _, _, .cons a b => .cons (DV.frz hD a) (DKs.frz hD b)
end
theorem MoOk.frz {K : PySem.W.Frag} {H : Hp} {U : List Addr} {D0 a : Addr} {o : HO} {mo : MO} (hD : D0 ∈ U) (ne : a ≠ D0) (h : MoOk K H U a mo) : MoOk K (upd H D0 o) U a mo := by
  have e : upd H D0 o a = H a := upd_ne ne
  cases mo with
  | lst ds => obtain ⟨x, b1, b2⟩ := h; exact ⟨x, e.trans b1, b2.frz hD⟩
  | ins C fs => obtain ⟨x, y, b1, b2⟩ := h; exact ⟨x, y, e.trans b1, b2.frz hD⟩
  | dK kvs => obtain ⟨x, b1, b2⟩ := h; exact ⟨x, e.trans b1, b2.frz hD⟩
  | lk o ws kvs => obtain ⟨b1, b2⟩ := h; exact ⟨e.trans b1, b2.frz hD⟩
  | any o => exact e.trans h
structure MSt (K : PySem.W.Frag) (H : Hp) (F : List Addr) (M : Mem) : Prop where
  nd : (dom M).Nodup
  ok : ∀ p ∈ M, MoOk K H (um F M) p.1 p.2
  fr : ∀ b ∈ F, b ∉ dom M ∧ ∃ o, H b = some o
theorem MoOk.there {K : PySem.W.Frag} {H : Hp} {U : List Addr} {a : Addr} {o : MO} (h : MoOk K H U a o) : ∃ u, H a = some u := by
  cases o with
  | lst ds => obtain ⟨_, e, _⟩ := h; exact ⟨_, e⟩
  | ins C fs => obtain ⟨_, _, e, _⟩ := h; exact ⟨_, e⟩
  | dK kvs => obtain ⟨_, e, _⟩ := h; exact ⟨_, e⟩
  | lk o ws kvs => obtain ⟨e, _⟩ := h; exact ⟨_, e⟩
  | any o => exact ⟨_, h⟩
theorem MSt.there {K : PySem.W.Frag} {H : Hp} {F : List Addr} {M : Mem} (m : MSt K H F M) {a : Addr} (h : a ∈ um F M) : ∃ u, H a = some u := by
  rcases List.mem_append.mp h with h | h
  · obtain ⟨p, hp, rfl⟩ := List.mem_map.mp h
    exact (m.ok p hp).there
  · exact (m.fr a h).2
theorem MSt.notin {K : PySem.W.Frag} {H : Hp} {F : List Addr} {M : Mem} (m : MSt K H F M) {a : Addr} (h : H a = none) : a ∉ um F M := fun hm => by
  obtain ⟨u, e⟩ := m.there hm
  rw [h] at e; cases e

theorem MSt.less {K : PySem.W.Frag} {H : Hp} {F F' : List Addr} {M : Mem} (m : MSt K H F M) (f : ∀ b ∈ F', b ∈ F) : MSt K H F' M :=
  ⟨m.nd, fun p hp => (m.ok p hp).anti fun a ha => (List.mem_append.mp ha).elim (fun z => List.mem_append_left _ z) fun z => List.mem_append_right _ (f a z), fun b hb => m.fr b (f b hb)⟩

structure SlOk (K : PySem.W.Frag) (H : Hp) (U : List Addr) (σ : L2.St) (ρ : Rho) : Prop where
  len : σ.length = ρ.length
  at_ : ∀ (i : Nat) (d : D), ρ[i]? = some (some d) → ∃ v, σ[i]? = some (some v) ∧ DV K H U v d
theorem SlOk.step {K : PySem.W.Frag} {H H' : Hp} {M M' : Mem} {F : List Addr} {σ : L2.St} {ρ : Rho} (h : SlOk K H (um F M) σ ρ) (s : Step H M H' M') : SlOk K H' (um F M') σ ρ :=
  ⟨h.len, fun i d e => let ⟨v, e1, e2⟩ := h.at_ i d e; ⟨v, e1, e2.step s⟩⟩
theorem SlOk.set {K : PySem.W.Frag} {H : Hp} {U : List Addr} {σ : L2.St} {ρ : Rho} (h : SlOk K H U σ ρ) {v : V} {d : D} (r : DV K H U v d) (i : Nat) : SlOk K H U (σ.set i (some v)) (ρ.set i (some d)) := by
  refine ⟨by rw [List.length_set, List.length_set]; exact h.len, fun j e he => ?_⟩
  by_cases hij : i = j
  · subst hij
    by_cases hl : i < ρ.length
    · rw [List.getElem?_set_self hl] at he
      cases he
      exact ⟨v, List.getElem?_set_self (by rw [h.len]; exact hl), r⟩
    · rw [List.getElem?_eq_none (by rw [List.length_set]; omega)] at he
      cases he
  · rw [List.getElem?_set_ne hij] at he ⊢
    exact h.at_ j e he
theorem SlOk.unset {K : PySem.W.Frag} {H : Hp} {U : List Addr} {σ : L2.St} {ρ : Rho} (h : SlOk K H U σ ρ) (i : Nat) : SlOk K H U (σ.set i none) (ρ.set i none) := by
  refine ⟨by rw [List.length_set, List.length_set]; exact h.len, fun j e he => ?_⟩
  by_cases hij : i = j
  · subst hij
    by_cases hl : i < ρ.length
    · rw [List.getElem?_set_self hl] at he; cases he
    · rw [List.getElem?_eq_none (by rw [List.length_set]; omega)] at he; cases he
  · rw [List.getElem?_set_ne hij] at he ⊢
    exact h.at_ j e he

/-- an exception that flies: its class, its own fields (none: it has no dict) -/
structure Exc where
  cls : Addr
  fs : Option (List (Str × D))
def XV (K : PySem.W.Frag) (H : Hp) (U : List Addr) (x : Exc) (cls : Value) (d : Option Addr) : Prop :=
  cls = .ref x.cls ∧ (match x.fs with
    | none => d = none
    | some fs => ∃ a vs, d = some a ∧ H a = some (.xd vs) ∧ a ∉ U ∧ DFs K H U vs fs)
theorem XV.step {K : PySem.W.Frag} {H H' : Hp} {M M' : Mem} {F : List Addr} {x : Exc} {cls : Value} {d : Option Addr} (h : XV K H (um F M) x cls d) (s : Step H M H' M') : XV K H' (um F M') x cls d := by
  obtain ⟨h1, h2⟩ := h
  refine ⟨h1, ?_⟩
  cases q : x.fs with
  | none => rw [q] at h2; exact h2
  | some fs =>
    rw [q] at h2
    obtain ⟨a, vs, e1, e2, e3, e4⟩ := h2
    exact ⟨a, vs, e1, s.keepU e2 e3, s.outU FrGo.refl e2 e3, e4.step s⟩

/-! ### the abstract readings -/
abbrev AK := D → Mem → Prop
abbrev XKA := Exc → Mem → Prop
/-- an expression: slots, memory, what is wanted of its value, of an exception -/
abbrev AE := Rho → Mem → AK → XKA → Prop
abbrev AA := Rho → Mem → (List D → Mem → Prop) → XKA → Prop
abbrev AT := Rho → Mem → (Bool → Mem → Prop) → XKA → Prop
structure KE where
  nx : Rho → Mem → Prop
  rt : D → Mem → Prop
  bk : Rho → Mem → Prop
  ct : Rho → Mem → Prop
  ex : Exc → Rho → Mem → Prop
abbrev AS := Rho → Mem → KE → Prop

/-- the code's run, from slots and heap, for a wish -/
def EW (X : Cx) (e : Expr) : TE := fun σ H Q => ∀ (pins : List (Addr × Obj)) (s : Shared), Inv X pins σ H s → wpAny (model X.prog X.w) X.A (eval e X.env) (EP X pins σ Q) X.xe s
theorem pe_ew {X : Cx} {e : Expr} : PE X e (EW X e) := ⟨fun pins s _ _ _ I h => h pins s I⟩
theorem _root_.L2.PE.ew {X : Cx} {e : Expr} {t : TE} (h : PE X e t) {σ : L2.St} {H : Hp} {Q : VK} (q : t σ H Q) : EW X e σ H Q := fun pins s I => h.run pins s σ H Q I q
def TW (X : Cx) (e : Expr) : TT := fun σ H Q => ∀ (pins : List (Addr × Obj)) (s : Shared), Inv X pins σ H s → wpAny (model X.prog X.w) X.A (isTrue e X.env (eval e X.env)) (TP X pins σ Q) X.xe s
theorem pt_tw {X : Cx} {e : Expr} : PT X e (TW X e) := ⟨fun pins s _ _ _ I h => h pins s I⟩
theorem _root_.L2.PT.tw {X : Cx} {e : Expr} {t : TT} (h : PT X e t) {σ : L2.St} {H : Hp} {Q : Bool → Hp → Prop} (q : t σ H Q) : TW X e σ H Q := fun pins s I => h.run pins s σ H Q I q
def WW (X : Cx) (e : Expr) : TT := fun σ H Q => ∀ (whole : Sem Value) (pins : List (Addr × Obj)) (s : Shared), Inv X pins σ H s → wpAny (model X.prog X.w) X.A (isTrue e X.env whole) (TP X pins σ Q) X.xe s
theorem pw_ww {X : Cx} {e : Expr} : PW X e (WW X e) := ⟨fun wh pins s _ _ _ I h => h wh pins s I⟩
def GW (X : Cx) (es : List Expr) : TA := fun σ H Q => ∀ (pos : Pos) (pins : List (Addr × Obj)) (s : Shared), Inv X pins σ H s → wpAny (model X.prog X.w) X.A (spliced (backTo pos (starEach es X.env))) (AP X pins σ Q) X.xe s
theorem pa_gw {X : Cx} {es : List Expr} : PA X es (GW X es) := ⟨fun pos pins s _ _ _ I h => h pos pins s I⟩
def SW (X : Cx) (st : Stmt) : TS := fun D σ H => ∀ (pins : List (Addr × Obj)) (s : Shared), Inv X pins σ H s → wpAny (model X.prog X.w) X.A (exec st X.env) (SP X pins D) X.xe s
theorem ps_sw {X : Cx} {st : Stmt} : PS X st (SW X st) := ⟨fun pins s _ _ _ I h => h pins s I⟩
def BW (X : Cx) (st : List Stmt) : TS := fun D σ H => ∀ (pins : List (Addr × Obj)) (s : Shared), Inv X pins σ H s → wpAny (model X.prog X.w) X.A (execs st X.env) (SP X pins D) X.xe s
theorem pss_bw {X : Cx} {st : List Stmt} : PSs X st (BW X st) := ⟨fun pins s _ _ _ I h => h pins s I⟩

/-- the state, abstract -/
structure Sta (X : Cx) (H : Hp) (F : List Addr) (M : Mem) (σ : L2.St) (ρ : Rho) : Prop where
  sl : SlOk X.K H (um F M) σ ρ
  ms : MSt X.K H F M

/-- how a wish about exceptions is linked -/
def LX (X : Cx) (H : Hp) (F : List Addr) (M : Mem) (EX : XKA) (G : XK) : Prop := ∀ x M' cls d H', Step H M H' M' → MSt X.K H' F M' → XV X.K H' (um F M') x cls d → EX x M' → G cls d H'
theorem LX.step {X : Cx} {H H1 : Hp} {F : List Addr} {M M1 : Mem} {EX : XKA} {G : XK} (h : LX X H F M EX G) (s : Step H M H1 M1) : LX X H1 F M1 EX G := fun x M' cls d H' s' m xv e => h x M' cls d H' (s.trans s') m xv e

/-- what an expression means -/
structure DenE (X : Cx) (e : Expr) (t : AE) : Prop where
  run : ∀ (F : List Addr) (ρ : Rho) (M : Mem) (P : AK) (EX : XKA) (W : WX) (σ : L2.St) (H : Hp) (Q : VK), Sta X H F M σ ρ → Takes X W → t ρ M P EX →
    (∀ v d M' H', Step H M H' M' → MSt X.K H' F M' → DV X.K H' (um F M') v d → P d M' → Q v H') → LX X H F M EX (fun cls d H' => W cls d σ H') → EW X e σ H Q
structure DenA (X : Cx) (es : List Expr) (t : AA) : Prop where
  run : ∀ (F : List Addr) (ρ : Rho) (M : Mem) (P : List D → Mem → Prop) (EX : XKA) (W : WX) (σ : L2.St) (H : Hp) (Q : List V → Hp → Prop), Sta X H F M σ ρ → Takes X W → t ρ M P EX →
    (∀ v d M' H', Step H M H' M' → MSt X.K H' F M' → DVs X.K H' (um F M') v d → P d M' → Q v H') → LX X H F M EX (fun cls d H' => W cls d σ H') → GW X es σ H Q
structure DenT (X : Cx) (e : Expr) (t : AT) : Prop where
  run : ∀ (F : List Addr) (ρ : Rho) (M : Mem) (P : Bool → Mem → Prop) (EX : XKA) (W : WX) (σ : L2.St) (H : Hp) (Q : Bool → Hp → Prop), Sta X H F M σ ρ → Takes X W → t ρ M P EX →
    (∀ b M' H', Step H M H' M' → MSt X.K H' F M' → P b M' → Q b H') → LX X H F M EX (fun cls d H' => W cls d σ H') → TW X e σ H Q
/-- a chain of and, or as a test -/
structure DenW (X : Cx) (e : Expr) (t : AT) : Prop where
  run : ∀ (F : List Addr) (ρ : Rho) (M : Mem) (P : Bool → Mem → Prop) (EX : XKA) (W : WX) (σ : L2.St) (H : Hp) (Q : Bool → Hp → Prop), Sta X H F M σ ρ → Takes X W → t ρ M P EX →
    (∀ b M' H', Step H M H' M' → MSt X.K H' F M' → P b M' → Q b H') → LX X H F M EX (fun cls d H' => W cls d σ H') → WW X e σ H Q

/-- how the wishes behind a statement are linked -/
structure Link (X : Cx) (W : WX) (F : List Addr) (H : Hp) (M : Mem) (k : KE) (D : Ends) : Prop where
  nx : ∀ ρ' M' σ' H', Step H M H' M' → Sta X H' F M' σ' ρ' → k.nx ρ' M' → D.nx σ' H'
  rt : ∀ v d M' H', Step H M H' M' → MSt X.K H' F M' → DV X.K H' (um F M') v d → k.rt d M' → D.rt v H'
  bk : ∀ ρ' M' σ' H', Step H M H' M' → Sta X H' F M' σ' ρ' → k.bk ρ' M' → D.bk σ' H'
  ct : ∀ ρ' M' σ' H', Step H M H' M' → Sta X H' F M' σ' ρ' → k.ct ρ' M' → D.ct σ' H'
  ex : ∀ x ρ' M' cls d σ' H', Step H M H' M' → Sta X H' F M' σ' ρ' → XV X.K H' (um F M') x cls d → k.ex x ρ' M' → W cls d σ' H'
theorem Link.step {X : Cx} {W : WX} {F : List Addr} {H H1 : Hp} {M M1 : Mem} {k : KE} {D : Ends} (l : Link X W F H M k D) (s : Step H M H1 M1) : Link X W F H1 M1 k D :=
  ⟨fun a b c d e => l.nx a b c d (s.trans e), fun a b c d e => l.rt a b c d (s.trans e), fun a b c d e => l.bk a b c d (s.trans e), fun a b c d e => l.ct a b c d (s.trans e), fun a b c d f g h e => l.ex a b c d f g h (s.trans e)⟩
theorem Link.lx {X : Cx} {W : WX} {F : List Addr} {H : Hp} {M : Mem} {k : KE} {D : Ends} (l : Link X W F H M k D) {σ : L2.St} {ρ : Rho} (h : Sta X H F M σ ρ) : LX X H F M (fun x M' => k.ex x ρ M') (fun cls d H' => W cls d σ H') :=
  fun x M' cls d H' s m xv e => l.ex x ρ M' cls d σ H' s ⟨h.sl.step s, m⟩ xv e
structure DenS (X : Cx) (st : Stmt) (t : AS) : Prop where
  run : ∀ (F : List Addr) (ρ : Rho) (M : Mem) (k : KE) (W : WX) (σ : L2.St) (H : Hp) (D : Ends), Sta X H F M σ ρ → Takes X W → t ρ M k → Link X W F H M k D → SW X st D σ H
structure DenB (X : Cx) (st : List Stmt) (t : AS) : Prop where
  run : ∀ (F : List Addr) (ρ : Rho) (M : Mem) (k : KE) (W : WX) (σ : L2.St) (H : Hp) (D : Ends), Sta X H F M σ ρ → Takes X W → t ρ M k → Link X W F H M k D → BW X st D σ H
theorem Sta.step {X : Cx} {H H' : Hp} {F : List Addr} {M M' : Mem} {σ : L2.St} {ρ : Rho} (h : Sta X H F M σ ρ) (s : Step H M H' M') (m : MSt X.K H' F M') : Sta X H' F M' σ ρ := ⟨h.sl.step s, m⟩
end Ab
set_option maxRecDepth 100000
set_option maxHeartbeats 2000000
/-! Ab2: expressions: names, constants, operators, tests, displays, items. -/
namespace Ab
open PySem L2

section
variable {X : Cx} {a b c e o : Expr} {ta tb tc te : AE} {pos : Pos}

/-! ### names and constants -/
def gS : Rho → Nat → Option D
  | [], _ => none
  | a :: _, 0 => a
  | _ :: r, n + 1 => gS r n
theorem gS_get : ∀ {ρ : Rho} {i : Nat} {d : D}, gS ρ i = some d → ρ[i]? = some (some d)
  | [], _, _, h => by cases h
  | a :: _, 0, _, h => by
    have h' : a = some _ := h
    rw [h']; rfl
  | _ :: r, n + 1, d, h => by
    have h' : gS r n = some d := h
    rw [List.getElem?_cons_succ]; exact gS_get h'
def aVar (i : Nat) : AE := fun ρ M P _ => ∃ d, gS ρ i = some d ∧ P d M
theorem aVar_r {i : Nat} {ρ : Rho} {M : Mem} {P : AK} {EX : XKA} {d : D} (h : gS ρ i = some d) (q : P d M) : aVar i ρ M P EX := ⟨d, h, q⟩
def aC (d : D) : AE := fun _ M P _ => P d M
theorem aC_r {ρ : Rho} {M : Mem} {P : AK} {EX : XKA} {d : D} (q : P d M) : aC d ρ M P EX := q
/-- data without objects -/
def flatD : D → Option V
  | .non => some .non
  | .bl b => some (.bl b)
  | .int i => some (.int i)
  | .str s => some (.str s)
  | .ty n => some (.ty n)
  | .ref a => some (.ref a)
  | _ => none
theorem flat_dv {K : PySem.W.Frag} {H : Hp} {U : List Addr} {d : D} {v : V} (h : flatD d = some v) : DV K H U v d := by
  cases d <;> simp [flatD] at h <;> subst h <;> constructor
theorem de_var (i : Nat) {x : Str} (hN : X.N[i]? = some x := by rfl) (hv : Vis X.env.scope x := by first | exact Or.inl rfl | exact Or.inr (Or.inl rfl) | exact Or.inr (Or.inr rfl)) (hd : (x == ("__debug__" : Str)) = false := by decide) (hcd : (x == ("__classdict__" : Str)) = false := by decide) : DenE X (.Name x pos) (aVar i) :=
  ⟨fun F ρ M P EX W σ H Q S tk h hP hX => by
    obtain ⟨d, e, h⟩ := h
    obtain ⟨v, e1, e2⟩ := S.sl.at_ i d (gS_get e)
    exact (pe_var hN hv hd hcd).ew ⟨v, e1, hP v d M H (Step.refl H M) S.ms e2 h⟩⟩
theorem de_c {d : D} {v : V} (h : PE X e (tC v)) (hd : flatD d = some v := by rfl) : DenE X e (aC d) :=
  ⟨fun F ρ M P EX W σ H Q S tk q hP hX => h.ew (hP v d M H (Step.refl H M) S.ms (flat_dv hd) q)⟩
theorem de_int {i : Int} {j : Nat} : DenE X (.Constant (.int i) j pos) (aC (.int i)) := de_c pe_int
theorem de_bl {b : Bool} {j : Nat} : DenE X (.Constant (.bool b) j pos) (aC (.bl b)) := de_c pe_bl
theorem de_non {j : Nat} : DenE X (.Constant .none j pos) (aC .non) := de_c pe_non
theorem de_str {x : Str} {j : Nat} : DenE X (.Constant (.str x) j pos) (aC (.str x)) := de_c pe_str
/-- a constant of the module -/
theorem de_glob {x : Str} {d : D} {v : V} {u : Value} (hm : X.mg x = some u) (r : RelV v u) (hg : Gl X x := by rfl) (hdv : flatD d = some v := by rfl) (hd : (x == ("__debug__" : Str)) = false := by decide) : DenE X (.Name x pos) (aC d) := de_c (pe_glob hg hm r hd) hdv
theorem de_bltn {x : Str} {d : D} {v : V} {u : Value} (hm : X.mg x = none) (hv : bootBuiltins x = some u) (r : RelV v u) (hg : Gl X x := by rfl) (hdv : flatD d = some v := by rfl) (hn : x ≠ "__name__" := by decide) (hd : (x == ("__debug__" : Str)) = false := by decide) : DenE X (.Name x pos) (aC d) := de_c (pe_bltn hg hm hv r hn hd) hdv

/-! ### two in a row -/
abbrev A2 := D → D → Mem → AK → Prop
/-- an abstract operation tells what a concrete one does -/
def OkA2 (X : Cx) (f : Value → Value → Sem Value) (r : A2) : Prop := ∀ (F : List Addr) (x y : D) (v w : V) (M : Mem) (P : AK) (H : Hp) (Q : VK), MSt X.K H F M → DV X.K H (um F M) v x → DV X.K H (um F M) w y → r x y M P →
  (∀ z d M' H', Step H M H' M' → MSt X.K H' F M' → DV X.K H' (um F M') z d → P d M' → Q z H') → ∃ rr, OpR X f rr ∧ rr v w H Q
def anyR (X : Cx) (f : Value → Value → Sem Value) : R2 := fun x y H Q => ∃ rr, OpR X f rr ∧ rr x y H Q
theorem op_any {f : Value → Value → Sem Value} : OpR X f (anyR X f) := fun pins s σ H x y v u Q I r1 r2 ⟨_, h1, h2⟩ => h1 pins s σ H x y v u Q I r1 r2 h2
def aBin (r : A2) (ta tb : AE) : AE := fun ρ M P EX => ta ρ M (fun x M1 => tb ρ M1 (fun y M2 => r x y M2 P) EX) EX
theorem bin_ok {F : List Addr} {f : Value → Value → Sem Value} {r : A2} (ha : DenE X a ta) (hb : DenE X b tb) (hr : OkA2 X f r) {ρ : Rho} {M : Mem} {P : AK} {EX : XKA} {W : WX} {σ : L2.St} {H : Hp} {Q : VK} (S : Sta X H F M σ ρ) (tk : Takes X W) (h : aBin r ta tb ρ M P EX)
    (hP : ∀ v d M' H', Step H M H' M' → MSt X.K H' F M' → DV X.K H' (um F M') v d → P d M' → Q v H') (hX : LX X H F M EX (fun cls d H' => W cls d σ H')) : tOp (anyR X f) (EW X a) (EW X b) σ H Q := by
  refine ha.run F ρ M _ EX W σ H _ S tk h (fun v x M1 H1 s1 m1 dv h1 => ?_) hX
  refine hb.run F ρ M1 _ EX W σ H1 _ (S.step s1 m1) tk h1 (fun w y M2 H2 s2 m2 dw h2 => ?_) (hX.step s1)
  exact hr F x y v w M2 P H2 Q m2 (dv.step s2) dw h2 fun z d M3 H3 s3 m3 dz p => hP z d M3 H3 ((s1.trans s2).trans s3) m3 dz p
theorem de_bin {op : Operator} {r : A2} (hr : OkA2 X (binaryOp op) r) (ha : DenE X a ta) (hb : DenE X b tb) : DenE X (.BinOp a op b pos) (aBin r ta tb) :=
  ⟨fun F ρ M P EX W σ H Q S tk h hP hX => (pe_op op_any pe_ew pe_ew).ew (bin_ok ha hb hr S tk h hP hX)⟩
theorem de_cmp {op : CmpOp} {r : A2} (hr : OkA2 X (compareOp op) r) (ha : DenE X a ta) (hb : DenE X b tb) (hm : behindInMarks op b = false := by first | exact nomark _ | with_unfolding_all rfl) : DenE X (.Compare a [op] [b] pos) (aBin r ta tb) :=
  ⟨fun F ρ M P EX W σ H Q S tk h hP hX => (pe_cmpR op_any pe_ew pe_ew hm).ew (bin_ok ha hb hr S tk h hP hX)⟩
/-- a reading whose value is a bool, as a test -/
def aB (t : AE) : AT := fun ρ M P EX => t ρ M (fun d M' => ∃ k, d = .bl k ∧ P k M') EX
theorem aB_r {k : Bool} {M : Mem} {P : Bool → Mem → Prop} (q : P k M) : ∃ k', D.bl k = .bl k' ∧ P k' M := ⟨k, rfl, q⟩
theorem DV.bool {K : PySem.W.Frag} {H : Hp} {U : List Addr} {v : V} {k : Bool} (h : DV K H U v (.bl k)) : v = .bl k := by cases h; rfl
theorem DV.int' {K : PySem.W.Frag} {H : Hp} {U : List Addr} {v : V} {k : Int} (h : DV K H U v (.int k)) : v = .int k := by cases h; rfl
theorem DV.str' {K : PySem.W.Frag} {H : Hp} {U : List Addr} {v : V} {k : Str} (h : DV K H U v (.str k)) : v = .str k := by cases h; rfl
theorem DV.non' {K : PySem.W.Frag} {H : Hp} {U : List Addr} {v : V} (h : DV K H U v .non) : v = .non := by cases h; rfl
theorem dt_cmp {op : CmpOp} {r : A2} (hr : OkA2 X (compareOp op) r) (ha : DenE X a ta) (hb : DenE X b tb) (hm : behindInMarks op b = false := by first | exact nomark _ | with_unfolding_all rfl) : DenT X (.Compare a [op] [b] pos) (aB (aBin r ta tb)) :=
  ⟨fun F ρ M P EX W σ H Q S tk h hP hX => (pt_cmpR op_any pe_ew pe_ew hm).tw (bin_ok ha hb hr S tk h (fun v d M' H' s m dv q => by
    obtain ⟨b', rfl, q⟩ := q
    exact ⟨b', dv.bool, hP b' M' H' s m q⟩) hX)⟩
/-- an expression whose value is a bool, as a test -/
theorem dt_val (h : DenE X e te) (he : ∀ whole, isTrue e X.env whole = (do let v ← whole; standAt e.pos; holding [v] (truthy v)) := by intro _; rfl) : DenT X e (aB te) :=
  ⟨fun F ρ M P EX W σ H Q S tk q hP hX => (pt_val pe_ew he).tw (h.run F ρ M _ EX W σ H _ S tk q (fun v d M' H' s m dv p => by
    obtain ⟨b', rfl, p⟩ := p
    exact ⟨b', dv.bool, hP b' M' H' s m p⟩) hX)⟩

/-! ### and, or, not, if -/
variable {tA tB tC' : AT} {rest : List Expr}
def aAnd (t u : AT) : AT := fun ρ M P EX => t ρ M (fun c M1 => (c = true → u ρ M1 P EX) ∧ (c = false → P false M1)) EX
def aOr (t u : AT) : AT := fun ρ M P EX => t ρ M (fun c M1 => (c = true → P true M1) ∧ (c = false → u ρ M1 P EX)) EX
def aNot (t : AT) : AT := fun ρ M P EX => t ρ M (fun c M1 => P (!c) M1) EX
theorem dw_and1 (ha : DenT X a tA) : DenW X (.BoolOp .And [a] pos) tA :=
  ⟨fun F ρ M P EX W σ H Q S tk h hP hX => fun wh pins s I => (pw_and1 (pt_tw (X := X))).run wh pins s σ H Q I (ha.run F ρ M P EX W σ H Q S tk h hP hX)⟩
theorem dw_or1 (ha : DenT X a tA) : DenW X (.BoolOp .Or [a] pos) tA :=
  ⟨fun F ρ M P EX W σ H Q S tk h hP hX => fun wh pins s I => (pw_or1 (pt_tw (X := X))).run wh pins s σ H Q I (ha.run F ρ M P EX W σ H Q S tk h hP hX)⟩
theorem dw_and (ha : DenT X a tA) (hb : DenW X (.BoolOp .And (b :: rest) pos) tB) : DenW X (.BoolOp .And (a :: b :: rest) pos) (aAnd tA tB) :=
  ⟨fun F ρ M P EX W σ H Q S tk h hP hX => fun wh pins s I => (pw_and (pt_tw (X := X)) (pw_ww (X := X))).run wh pins s σ H Q I
    (ha.run F ρ M _ EX W σ H _ S tk h (fun c M1 H1 s1 m1 q => by
      cases c with
      | true =>
        show WW X _ σ H1 Q
        exact hb.run F ρ M1 P EX W σ H1 Q (S.step s1 m1) tk (q.1 rfl) (fun b' M2 H2 s2 m2 p => hP b' M2 H2 (s1.trans s2) m2 p) (hX.step s1)
      | false =>
        show Q false H1
        exact hP false M1 H1 s1 m1 (q.2 rfl)) hX)⟩
theorem dw_or (ha : DenT X a tA) (hb : DenW X (.BoolOp .Or (b :: rest) pos) tB) : DenW X (.BoolOp .Or (a :: b :: rest) pos) (aOr tA tB) :=
  ⟨fun F ρ M P EX W σ H Q S tk h hP hX => fun wh pins s I => (pw_or (pt_tw (X := X)) (pw_ww (X := X))).run wh pins s σ H Q I
    (ha.run F ρ M _ EX W σ H _ S tk h (fun c M1 H1 s1 m1 q => by
      cases c with
      | false =>
        show WW X _ σ H1 Q
        exact hb.run F ρ M1 P EX W σ H1 Q (S.step s1 m1) tk (q.2 rfl) (fun b' M2 H2 s2 m2 p => hP b' M2 H2 (s1.trans s2) m2 p) (hX.step s1)
      | true =>
        show Q true H1
        exact hP true M1 H1 s1 m1 (q.1 rfl)) hX)⟩
theorem DenW.t (h : DenW X e tA) : DenT X e tA := ⟨fun F ρ M P EX W σ H Q S tk q hP hX => fun pins s I => h.run F ρ M P EX W σ H Q S tk q hP hX _ pins s I⟩
theorem dt_not (ha : DenT X a tA) : DenT X (.UnaryOp .Not a pos) (aNot tA) :=
  ⟨fun F ρ M P EX W σ H Q S tk h hP hX => (pt_not (pt_tw (X := X))).tw (ha.run F ρ M _ EX W σ H _ S tk h (fun c M1 H1 s1 m1 q => hP (!c) M1 H1 s1 m1 q) hX)⟩
/-- .. as values (bools) -/
def aAndV (t u : AE) : AE := fun ρ M P EX => t ρ M (fun x M1 => ∃ c, x = .bl c ∧ (c = true → u ρ M1 P EX) ∧ (c = false → P (.bl false) M1)) EX
def aOrV (t u : AE) : AE := fun ρ M P EX => t ρ M (fun x M1 => ∃ c, x = .bl c ∧ (c = true → P (.bl true) M1) ∧ (c = false → u ρ M1 P EX)) EX
def aNotV (t : AE) : AE := fun ρ M P EX => t ρ M (fun x M1 => ∃ c, x = .bl c ∧ P (.bl (!c)) M1) EX
theorem de_one {op : BoolOp} (h : DenE X a ta) : DenE X (.BoolOp op [a] pos) ta := ⟨fun F ρ M P EX W σ H Q S tk q hP hX => (pe_one pe_ew).ew (h.run F ρ M P EX W σ H Q S tk q hP hX)⟩
theorem de_and (ha : DenE X a ta) (hb : DenE X (.BoolOp .And (b :: rest) pos) tb) : DenE X (.BoolOp .And (a :: b :: rest) pos) (aAndV ta tb) :=
  ⟨fun F ρ M P EX W σ H Q S tk h hP hX => (pe_and (pe_ew (X := X)) (pe_ew (X := X))).ew
    (ha.run F ρ M _ EX W σ H _ S tk h (fun v x M1 H1 s1 m1 dv q => by
      obtain ⟨c, rfl, q⟩ := q
      refine ⟨c, dv.bool, ?_⟩
      cases c with
      | true =>
        show EW X _ σ H1 Q
        exact hb.run F ρ M1 P EX W σ H1 Q (S.step s1 m1) tk (q.1 rfl) (fun z d M2 H2 s2 m2 dz p => hP z d M2 H2 (s1.trans s2) m2 dz p) (hX.step s1)
      | false =>
        show Q (.bl false) H1
        exact hP _ _ M1 H1 s1 m1 (.bl false) (q.2 rfl)) hX)⟩
theorem de_or (ha : DenE X a ta) (hb : DenE X (.BoolOp .Or (b :: rest) pos) tb) : DenE X (.BoolOp .Or (a :: b :: rest) pos) (aOrV ta tb) :=
  ⟨fun F ρ M P EX W σ H Q S tk h hP hX => (pe_or (pe_ew (X := X)) (pe_ew (X := X))).ew
    (ha.run F ρ M _ EX W σ H _ S tk h (fun v x M1 H1 s1 m1 dv q => by
      obtain ⟨c, rfl, q⟩ := q
      refine ⟨c, dv.bool, ?_⟩
      cases c with
      | false =>
        show EW X _ σ H1 Q
        exact hb.run F ρ M1 P EX W σ H1 Q (S.step s1 m1) tk (q.2 rfl) (fun z d M2 H2 s2 m2 dz p => hP z d M2 H2 (s1.trans s2) m2 dz p) (hX.step s1)
      | true =>
        show Q (.bl true) H1
        exact hP _ _ M1 H1 s1 m1 (.bl true) (q.1 rfl)) hX)⟩
theorem de_not (ha : DenE X a ta) : DenE X (.UnaryOp .Not a pos) (aNotV ta) :=
  ⟨fun F ρ M P EX W σ H Q S tk h hP hX => (pe_not (pe_ew (X := X))).ew
    (ha.run F ρ M _ EX W σ H _ S tk h (fun v x M1 H1 s1 m1 dv q => by
      obtain ⟨c, rfl, q⟩ := q
      exact ⟨c, dv.bool, hP _ _ M1 H1 s1 m1 (.bl (!c)) q⟩) hX)⟩
def aIf (t : AT) (ta tb : AE) : AE := fun ρ M P EX => t ρ M (fun c M1 => (c = true → ta ρ M1 P EX) ∧ (c = false → tb ρ M1 P EX)) EX
theorem de_if (hc : DenT X c tA) (ha : DenE X a ta) (hb : DenE X b tb) : DenE X (.IfExp c a b pos) (aIf tA ta tb) :=
  ⟨fun F ρ M P EX W σ H Q S tk h hP hX => (pe_ifExp (pt_tw (X := X)) (pe_ew (X := X)) (pe_ew (X := X))).ew
    (hc.run F ρ M _ EX W σ H _ S tk h (fun c M1 H1 s1 m1 q => by
      cases c with
      | true =>
        show EW X _ σ H1 Q
        exact ha.run F ρ M1 P EX W σ H1 Q (S.step s1 m1) tk (q.1 rfl) (fun z d M2 H2 s2 m2 dz p => hP z d M2 H2 (s1.trans s2) m2 dz p) (hX.step s1)
      | false =>
        show EW X _ σ H1 Q
        exact hb.run F ρ M1 P EX W σ H1 Q (S.step s1 m1) tk (q.2 rfl) (fun z d M2 H2 s2 m2 dz p => hP z d M2 H2 (s1.trans s2) m2 dz p) (hX.step s1)) hX)⟩
/-- code that is never come to -/
def aNever : AE := fun _ _ _ _ => False
theorem de_never : DenE X e aNever := ⟨fun _ _ _ _ _ _ _ _ _ _ _ h _ _ => h.elim⟩
def aNeverT : AT := fun _ _ _ _ => False
theorem dt_never : DenT X e aNeverT := ⟨fun _ _ _ _ _ _ _ _ _ _ _ h _ _ => h.elim⟩

/-! ### chains -/
def aChain (r r' : A2) (ta tb tc : AE) : AE := fun ρ M P EX => ta ρ M (fun x M1 => tb ρ M1 (fun y M2 => r x y M2 fun z M3 => ∃ k, z = .bl k ∧ (k = true → tc ρ M3 (fun w M4 => r' y w M4 P) EX) ∧ (k = false → P (.bl false) M3)) EX) EX
theorem chain_ok {F : List Addr} {f f' : Value → Value → Sem Value} {r r' : A2} (ha : DenE X a ta) (hb : DenE X b tb) (hc : DenE X c tc) (hr : OkA2 X f r) (hr' : OkA2 X f' r') {ρ : Rho} {M : Mem} {P : AK} {EX : XKA} {W : WX} {σ : L2.St} {H : Hp} {Q : VK} (S : Sta X H F M σ ρ) (tk : Takes X W)
    (h : aChain r r' ta tb tc ρ M P EX) (hP : ∀ v d M' H', Step H M H' M' → MSt X.K H' F M' → DV X.K H' (um F M') v d → P d M' → Q v H') (hX : LX X H F M EX (fun cls d H' => W cls d σ H')) : tChain (anyR X f) (anyR X f') (EW X a) (EW X b) (EW X c) σ H Q := by
  refine ha.run F ρ M _ EX W σ H _ S tk h (fun v x M1 H1 s1 m1 dv h1 => ?_) hX
  refine hb.run F ρ M1 _ EX W σ H1 _ (S.step s1 m1) tk h1 (fun w y M2 H2 s2 m2 dw h2 => ?_) (hX.step s1)
  refine hr F x y v w M2 _ H2 _ m2 (dv.step s2) dw h2 fun z d M3 H3 s3 m3 dz p => ?_
  obtain ⟨k, rfl, p⟩ := p
  refine ⟨k, dz.bool, ?_⟩
  have s13 := (s1.trans s2).trans s3
  cases k with
  | false =>
    show Q (.bl false) H3
    exact hP _ _ M3 H3 s13 m3 (.bl false) (p.2 rfl)
  | true =>
    show EW X c σ H3 _
    refine hc.run F ρ M3 _ EX W σ H3 _ (S.step s13 m3) tk (p.1 rfl) (fun w' y' M4 H4 s4 m4 dw' h4 => ?_) (hX.step s13)
    exact hr' F y y' w w' M4 P H4 Q m4 ((dw.step s3).step s4) dw' h4 fun z d M5 H5 s5 m5 dz p => hP z d M5 H5 ((s13.trans s4).trans s5) m5 dz p
theorem de_chain {op op' : CmpOp} {r r' : A2} (hr : OkA2 X (compareOp op) r) (hr' : OkA2 X (compareOp op') r') (ha : DenE X a ta) (hb : DenE X b tb) (hc : DenE X c tc) (hm : lastMarks [op, op'] [b, c] = false := by with_unfolding_all rfl) :
    DenE X (.Compare a [op, op'] [b, c] pos) (aChain r r' ta tb tc) :=
  ⟨fun F ρ M P EX W σ H Q S tk h hP hX => (pe_chain op_any op_any pe_ew pe_ew pe_ew hm).ew (chain_ok ha hb hc hr hr' S tk h hP hX)⟩
theorem dt_chain {op op' : CmpOp} {r r' : A2} (hr : OkA2 X (compareOp op) r) (hr' : OkA2 X (compareOp op') r') (ha : DenE X a ta) (hb : DenE X b tb) (hc : DenE X c tc) (hm : lastMarks [op, op'] [b, c] = false := by with_unfolding_all rfl) :
    DenT X (.Compare a [op, op'] [b, c] pos) (aB (aChain r r' ta tb tc)) :=
  ⟨fun F ρ M P EX W σ H Q S tk h hP hX => (pt_chain op_any op_any pe_ew pe_ew pe_ew hm).tw (chain_ok ha hb hc hr hr' S tk h (fun v d M' H' s m dv q => by
    obtain ⟨b', rfl, q⟩ := q
    exact ⟨b', dv.bool, hP b' M' H' s m q⟩) hX)⟩

/-! ### one-place operations -/
def aUn (r : D → Mem → AK → Prop) (ta : AE) : AE := fun ρ M P EX => ta ρ M (fun x M1 => r x M1 P) EX
def OkA1 (X : Cx) (f : Value → Sem Value) (r : D → Mem → AK → Prop) : Prop := ∀ (F : List Addr) (x : D) (v : V) (M : Mem) (P : AK) (H : Hp) (Q : VK), MSt X.K H F M → DV X.K H (um F M) v x → r x M P →
  (∀ z d M' H', Step H M H' M' → MSt X.K H' F M' → DV X.K H' (um F M') z d → P d M' → Q z H') → ∃ rr, UnR X f rr ∧ rr v H Q
def anyU (X : Cx) (f : Value → Sem Value) : V → Hp → VK → Prop := fun x H Q => ∃ rr, UnR X f rr ∧ rr x H Q
theorem un_any {f : Value → Sem Value} : UnR X f (anyU X f) := fun pins s σ H x v Q I r1 ⟨_, h1, h2⟩ => h1 pins s σ H x v Q I r1 h2
theorem de_un {op : UnaryOp} {r : D → Mem → AK → Prop} (hr : OkA1 X (unaryOp op) r) (ha : DenE X a ta) : DenE X (.UnaryOp op a pos) (aUn r ta) :=
  ⟨fun F ρ M P EX W σ H Q S tk h hP hX => (pe_un un_any (pe_ew (X := X))).ew (ha.run F ρ M _ EX W σ H _ S tk h (fun v x M1 H1 s1 m1 dv q =>
    hr F x v M1 P H1 Q m1 dv q fun z d M2 H2 s2 m2 dz p => hP z d M2 H2 (s1.trans s2) m2 dz p) hX)⟩
inductive NegA : D → Mem → AK → Prop
  | int {i : Int} {M : Mem} {P : AK} : P (.int (-i)) M → NegA (.int i) M P
theorem ok_neg : OkA1 X (unaryOp .USub) NegA := fun F x v M P H Q m dv h hP => by
  cases h with
  | int q =>
    cases dv
    exact ⟨_, un_neg, _, rfl, hP _ _ M H (Step.refl H M) m (.int _) q⟩

/-! ### arguments, displays -/
variable {es : List Expr} {t : AA}
def aNil : AA := fun _ M P _ => P [] M
def aCons (ta : AE) (tr : AA) : AA := fun ρ M P EX => ta ρ M (fun x M1 => tr ρ M1 (fun xs M2 => P (x :: xs) M2) EX) EX
theorem da_nil : DenA X [] aNil := ⟨fun F ρ M P EX W σ H Q S tk h hP hX => fun pos pins s I => pa_nil.run pos pins s σ H Q I (hP [] [] M H (Step.refl H M) S.ms .nil h)⟩
theorem da_cons (ha : DenE X e te) (hr : DenA X es t) (hs : starEach (e :: es) X.env = (false, eval e X.env) :: starEach es X.env := by rfl) : DenA X (e :: es) (aCons te t) :=
  ⟨fun F ρ M P EX W σ H Q S tk h hP hX => fun pos pins s I => (pa_cons (pe_ew (X := X)) (pa_gw (X := X)) hs).run pos pins s σ H Q I
    (ha.run F ρ M _ EX W σ H _ S tk h (fun v x M1 H1 s1 m1 dv q =>
      hr.run F ρ M1 _ EX W σ H1 _ (S.step s1 m1) tk q (fun vs xs M2 H2 s2 m2 dvs p => hP _ _ M2 H2 (s1.trans s2) m2 (.cons (dv.step s2) dvs) p) (hX.step s1)) hX)⟩
def aTup (t : AA) : AE := fun ρ M P EX => t ρ M (fun ds M1 => ds.length ≤ 100000 ∧ P (.tup ds) M1) EX
/-- a list that isn't changed any more -/
def aLst (t : AA) : AE := fun ρ M P EX => t ρ M (fun ds M1 => ds.length ≤ 100000 ∧ P (.lst ds) M1) EX
/-- a list that may change -/
def aLstM (t : AA) : AE := fun ρ M P EX => t ρ M (fun ds M1 => ds.length ≤ 100000 ∧ ∀ q, q ∉ dom M1 → P (.ref q) (M1 ++ [(q, .lst ds)])) EX
theorem sz {n : Nat} (h : n ≤ 100000) : n ≤ sizeLine := Nat.le_trans h (by decide)
theorem step_new {H : Hp} {M : Mem} {p : Addr} {o : HO} (hp : H p = none) : Step H M (upd H p o) M :=
  ⟨fun b u _ e => by rw [upd_ne (ne_of_none e hp)]; exact e, fun b hb => Or.inl hb⟩
theorem MoOk.step {K : PySem.W.Frag} {H H' : Hp} {M M' : Mem} {F : List Addr} {a : Addr} {o : MO} (h : MoOk K H (um F M) a o) (e : H' a = H a) (s : Step H M H' M') : MoOk K H' (um F M') a o := by
  cases o with
  | lst ds =>
    obtain ⟨xs, e1, e2⟩ := h
    exact ⟨xs, e.trans e1, e2.step s⟩
  | ins C fs =>
    obtain ⟨dx, xs, e1, e2⟩ := h
    exact ⟨dx, xs, e.trans e1, e2.step s⟩
  | dK kvs =>
    obtain ⟨xs, e1, e2⟩ := h
    exact ⟨xs, e.trans e1, e2.step s⟩
  | lk o ws kvs =>
    obtain ⟨e1, e2⟩ := h
    exact ⟨e.trans e1, e2.step s⟩
  | any o => exact e.trans h
theorem mst_new {K : PySem.W.Frag} {H : Hp} {F : List Addr} {M : Mem} {p : Addr} {o : HO} (m : MSt K H F M) (hp : H p = none) : MSt K (upd H p o) F M :=
  ⟨m.nd, fun q hq => (m.ok q hq).step (upd_ne (fun z => by
    obtain ⟨u, e⟩ := (m.ok q hq).there
    rw [z, hp] at e; cases e)) (step_new hp), fun b hb => ⟨(m.fr b hb).1, let ⟨u, e⟩ := (m.fr b hb).2; ⟨u, by rw [upd_ne (ne_of_none e hp)]; exact e⟩⟩⟩
theorem dom_app {M : Mem} {p : Addr} {o : MO} : dom (M ++ [(p, o)]) = dom M ++ [p] := by simp [dom]
theorem step_newM {H : Hp} {M : Mem} {p : Addr} {o : HO} {mo : MO} (hp : H p = none) : Step H M (upd H p o) (M ++ [(p, mo)]) :=
  ⟨fun b u _ e => by rw [upd_ne (ne_of_none e hp)]; exact e, fun b hb => by
    rw [dom_app] at hb
    rcases List.mem_append.mp hb with h | h
    · exact Or.inl h
    · rw [List.mem_singleton.mp h]; exact Or.inr hp⟩
theorem mst_newM {K : PySem.W.Frag} {H : Hp} {F : List Addr} {M : Mem} {p : Addr} {o : HO} {mo : MO} (m : MSt K H F M) (hp : H p = none) (h : MoOk K (upd H p o) (um F (M ++ [(p, mo)])) p mo) : MSt K (upd H p o) F (M ++ [(p, mo)]) := by
  refine ⟨?_, fun q hq => ?_, fun b hb => ⟨?_, ?_⟩⟩
  · rw [dom_app]
    refine List.nodup_append.mpr ⟨m.nd, by simp, fun a ha b hb => ?_⟩
    rw [List.mem_singleton.mp hb]
    rintro rfl
    exact m.notin hp (List.mem_append_left _ ha)
  · rcases List.mem_append.mp hq with h' | h'
    · exact (m.ok q h').step (upd_ne (fun z => by
        obtain ⟨u, e⟩ := (m.ok q h').there
        rw [z, hp] at e; cases e)) (step_newM hp)
    · rw [List.mem_singleton.mp h']
      exact h
  · rw [dom_app]
    intro z
    rcases List.mem_append.mp z with z | z
    · exact (m.fr b hb).1 z
    · rw [List.mem_singleton.mp z] at hb
      exact m.notin hp (List.mem_append_right _ hb)
  · obtain ⟨u, e⟩ := (m.fr b hb).2
    exact ⟨u, by rw [upd_ne (ne_of_none e hp)]; exact e⟩
end
end Ab
set_option maxRecDepth 100000
set_option maxHeartbeats 2000000
/-! Ab3: statements, calls, defs. -/
namespace Ab
open PySem L2

section
variable {X : Cx} {st : Stmt} {sts : List Stmt} {t u : AS} {e : Expr} {te : AE} {pos : Pos}
def aNext : AS := fun ρ M k => k.nx ρ M
def aSeq (t u : AS) : AS := fun ρ M k => t ρ M { k with nx := fun ρ' M' => u ρ' M' k }
theorem db_nil : DenB X [] aNext := ⟨fun F ρ M k W σ H D S tk h L => fun pins s I => pss_nil.run pins s σ H D I (L.nx ρ M σ H (Step.refl H M) S h)⟩
theorem db_cons (h1 : DenS X st t) (h2 : DenB X sts u) : DenB X (st :: sts) (aSeq t u) :=
  ⟨fun F ρ M k W σ H D S tk h L => fun pins s I => (pss_cons (ps_sw (X := X)) (pss_bw (X := X))).run pins s σ H D I
    (h1.run F ρ M _ W σ H { D with nx := BW X sts D } S tk h
      ⟨fun ρ' M' σ' H' s S' q => h2.run F ρ' M' k W σ' H' D S' tk q (L.step s), L.rt, L.bk, L.ct, L.ex⟩)⟩
theorem db_one (h1 : DenS X st t) : DenB X [st] t :=
  ⟨fun F ρ M k W σ H D S tk h L => fun pins s I => (pss_one (ps_sw (X := X))).run pins s σ H D I (h1.run F ρ M k W σ H D S tk h L)⟩
def aNeverS : AS := fun _ _ _ => False
theorem ds_never : DenS X st aNeverS := ⟨fun _ _ _ _ _ _ _ _ _ _ h _ => h.elim⟩
theorem db_never : DenB X sts aNeverS := ⟨fun _ _ _ _ _ _ _ _ _ _ h _ => h.elim⟩
theorem ds_pass : DenS X (.Pass pos) aNext := ⟨fun F ρ M k W σ H D S tk h L => fun pins s I => ps_pass.run pins s σ H D I (L.nx ρ M σ H (Step.refl H M) S h)⟩
def aBreak : AS := fun ρ M k => k.bk ρ M
def aCont : AS := fun ρ M k => k.ct ρ M
theorem ds_break : DenS X (.Break pos) aBreak := ⟨fun F ρ M k W σ H D S tk h L => fun pins s I => ps_break.run pins s σ H D I (L.bk ρ M σ H (Step.refl H M) S h)⟩
theorem ds_cont : DenS X (.Continue pos) aCont := ⟨fun F ρ M k W σ H D S tk h L => fun pins s I => ps_continue.run pins s σ H D I (L.ct ρ M σ H (Step.refl H M) S h)⟩
theorem ds_doc {x : Str} {j : Nat} {pos' : Pos} : DenS X (.Expr (.Constant (.str x) j pos) pos') aNext := ⟨fun F ρ M k W σ H D S tk h L => fun pins s I => ps_doc.run pins s σ H D I (L.nx ρ M σ H (Step.refl H M) S h)⟩
def aRet (te : AE) : AS := fun ρ M k => te ρ M k.rt (fun x M' => k.ex x ρ M')
theorem ds_ret (he : DenE X e te) : DenS X (.Return (some e) pos) (aRet te) :=
  ⟨fun F ρ M k W σ H D S tk h L => fun pins s I => (ps_ret (pe_ew (X := X))).run pins s σ H D I
    (he.run F ρ M k.rt _ W σ H D.rt S tk h (fun v d M' H' s m dv q => L.rt v d M' H' s m dv q) (L.lx S))⟩
def aRetN : AS := fun _ M k => k.rt .non M
theorem ds_retN : DenS X (.Return none pos) aRetN := ⟨fun F ρ M k W σ H D S tk h L => fun pins s I => ps_retN.run pins s σ H D I (L.rt _ _ M H (Step.refl H M) S.ms .non h)⟩
def aDrop (te : AE) : AS := fun ρ M k => te ρ M (fun _ M' => k.nx ρ M') (fun x M' => k.ex x ρ M')
theorem ds_expr (he : DenE X e te) (hs : swapsWith e none pos.line X.env = pure false := by rfl) : DenS X (.Expr e pos) (aDrop te) :=
  ⟨fun F ρ M k W σ H D S tk h L => fun pins s I => (ps_expr (pe_ew (X := X)) hs).run pins s σ H D I
    (he.run F ρ M _ _ W σ H _ S tk h (fun v d M' H' s m dv q => L.nx ρ M' σ H' s (S.step s m) q) (L.lx S))⟩
def aIfS (c : AT) (t u : AS) : AS := fun ρ M k => c ρ M (fun b M1 => (b = true → t ρ M1 k) ∧ (b = false → u ρ M1 k)) (fun x M' => k.ex x ρ M')
theorem ds_if {c : Expr} {a b : List Stmt} {tc : AT} (hc : DenT X c tc) (ha : DenB X a t) (hb : DenB X b u) : DenS X (.If c a b pos) (aIfS tc t u) :=
  ⟨fun F ρ M k W σ H D S tk h L => fun pins s I => (ps_if (pt_tw (X := X)) (pss_bw (X := X)) (pss_bw (X := X))).run pins s σ H D I
    (hc.run F ρ M _ _ W σ H _ S tk h (fun b M1 H1 s1 m1 q => by
      cases b with
      | true =>
        show BW X _ D σ H1
        exact ha.run F ρ M1 k W σ H1 D (S.step s1 m1) tk (q.1 rfl) (L.step s1)
      | false =>
        show BW X _ D σ H1
        exact hb.run F ρ M1 k W σ H1 D (S.step s1 m1) tk (q.2 rfl) (L.step s1)) (L.lx S))⟩

/-! ### targets -/
abbrev AG := D → Rho → Mem → (Rho → Mem → Prop) → Prop
abbrev AGs := List D → Rho → Mem → (Rho → Mem → Prop) → Prop
def GT (X : Cx) (tg : Expr) : TG := fun v σ H Q => ∀ (pins : List (Addr × Obj)) (s : Shared) (u : Value), Inv X pins σ H s → RelV v u → wpAny (model X.prog X.w) X.A (assign tg X.env u) (fun _ s' => ∃ σ' H', Inv X pins σ' H' s' ∧ Q σ' H') X.xe s
theorem pg_gt {tg : Expr} : PG X tg (GT X tg) := ⟨fun pins s σ H v u Q I r h => h pins s u I r⟩
def GTs (X : Cx) (ts : List Expr) : TGs := fun vs σ H Q => ∀ (pins : List (Addr × Obj)) (s : Shared) (us : List Value), Inv X pins σ H s → Vals vs us → wpAny (model X.prog X.w) X.A (assignInOrder ((assignEach ts X.env).map (·.2)) us) (fun _ s' => ∃ σ' H', Inv X pins σ' H' s' ∧ Q σ' H') X.xe s
theorem pgs_gt {ts : List Expr} : PGs X ts (GTs X ts) := ⟨fun pins s σ H vs us Q I r h => h pins s us I r⟩
/-- the slots but some are as they were -/
def OutEq (vs : List Nat) (σ σ' : L2.St) : Prop := σ'.length = σ.length ∧ ∀ i, i ∉ vs → σ'[i]? = σ[i]?
theorem OutEq.refl {vs : List Nat} {σ : L2.St} : OutEq vs σ σ := ⟨rfl, fun _ _ => rfl⟩
theorem OutEq.trans {vs ws : List Nat} {σ σ1 σ2 : L2.St} (a : OutEq vs σ σ1) (b : OutEq ws σ1 σ2) : OutEq (vs ++ ws) σ σ2 :=
  ⟨b.1.trans a.1, fun i h => (b.2 i (fun z => h (List.mem_append_right _ z))).trans (a.2 i (fun z => h (List.mem_append_left _ z)))⟩
/-- a target, of code that raises nothing -/
structure DenG (X : Cx) (tg : Expr) (vs : List Nat) (g : AG) : Prop where
  run : ∀ (F : List Addr) (v : V) (d : D) (ρ : Rho) (M : Mem) (P : Rho → Mem → Prop) (W : WX) (σ : L2.St) (H : Hp) (Q : L2.St → Hp → Prop), Sta X H F M σ ρ → DV X.K H (um F M) v d → Takes X W → g d ρ M P →
    (∀ ρ' M' σ' H', Step H M H' M' → Sta X H' F M' σ' ρ' → OutEq vs σ σ' → P ρ' M' → Q σ' H') → GT X tg v σ H Q
structure DenGs (X : Cx) (ts : List Expr) (vs : List Nat) (g : AGs) : Prop where
  run : ∀ (F : List Addr) (ws : List V) (ds : List D) (ρ : Rho) (M : Mem) (P : Rho → Mem → Prop) (W : WX) (σ : L2.St) (H : Hp) (Q : L2.St → Hp → Prop), Sta X H F M σ ρ → DVs X.K H (um F M) ws ds → Takes X W → g ds ρ M P →
    (∀ ρ' M' σ' H', Step H M H' M' → Sta X H' F M' σ' ρ' → OutEq vs σ σ' → P ρ' M' → Q σ' H') → GTs X ts ws σ H Q
def sS : Rho → Nat → D → Rho
  | [], _, _ => []
  | _ :: r, 0, d => some d :: r
  | a :: r, n + 1, d => a :: sS r n d
theorem sS_set : ∀ (ρ : Rho) (i : Nat) (d : D), sS ρ i d = ρ.set i (some d)
  | [], _, _ => rfl
  | _ :: _, 0, _ => rfl
  | a :: r, n + 1, d => by
    show a :: sS r n d = _
    rw [sS_set r n d]; rfl
def gNameA (i : Nat) : AG := fun d ρ M P => P (sS ρ i d) M
theorem dg_name (i : Nat) {x : Str} (hN : X.N.Nodup) (hi : X.N[i]? = some x := by rfl) (hx : Loc X.env.scope x := by first | exact Or.inl rfl | exact Or.inr rfl) (hf : X.fn x = true ∨ X.env.scope.names.lookup x = some .local := by first | exact .inl rfl | exact .inr rfl | assumption) : DenG X (.Name x pos) [i] (gNameA i) :=
  ⟨fun F v d ρ M P W σ H Q S dv tk h hP => fun pins s u I r => (pg_name hN hi hx hf).run pins s σ H v u Q I r (hP _ M _ H (Step.refl H M) ⟨by rw [sS_set]; exact S.sl.set dv i, S.ms⟩ ⟨by rw [List.length_set], fun j hj => List.getElem?_set_ne (fun z => hj (by rw [z]; exact List.mem_singleton.mpr rfl))⟩ h)⟩
def gNilA : AGs := fun ds ρ M P => ds = [] ∧ P ρ M
def gConsA (g : AG) (gs : AGs) : AGs := fun ds ρ M P => ∃ d r, ds = d :: r ∧ g d ρ M (fun ρ' M' => gs r ρ' M' P)
theorem dgs_nil : DenGs X [] [] gNilA := ⟨fun F ws ds ρ M P W σ H Q S dv tk h hP => fun pins s us I r => by
  obtain ⟨rfl, h⟩ := h
  cases dv
  exact pgs_nil.run pins s σ H [] us Q I r ⟨rfl, hP ρ M σ H (Step.refl H M) S OutEq.refl h⟩⟩
theorem dgs_cons {tg : Expr} {ts : List Expr} {g : AG} {gs : AGs} {vs ws : List Nat} (h1 : DenG X tg vs g) (h2 : DenGs X ts ws gs) (hs : (assignEach (tg :: ts) X.env).map (·.2) = assign tg X.env :: (assignEach ts X.env).map (·.2) := by rfl) : DenGs X (tg :: ts) (vs ++ ws) (gConsA g gs) :=
  ⟨fun F zs ds ρ M P W σ H Q S dv tk h hP => fun pins s us I r => by
    obtain ⟨d, rr, rfl, h⟩ := h
    cases dv with
    | cons a b =>
      exact (pgs_cons (pg_gt (X := X)) (pgs_gt (X := X)) hs).run pins s σ H _ us Q I r ⟨_, _, rfl, h1.run F _ d ρ M _ W σ H _ S a tk h fun ρ' M' σ' H' s1 S1 o1 q =>
        h2.run F _ rr ρ' M' P W σ' H' Q S1 (b.step s1) tk q fun ρ2 M2 σ2 H2 s2 S2 o2 p => hP ρ2 M2 σ2 H2 (s1.trans s2) S2 (o1.trans o2) p⟩⟩
theorem DV.tup_inv {K : PySem.W.Frag} {H : Hp} {U : List Addr} {v : V} {ds : List D} (h : DV K H U v (.tup ds)) : ∃ a xs, v = .ref a ∧ SqT K H a xs ∧ DVs K H U xs ds := by
  cases h with
  | tup h hn t => exact ⟨_, _, rfl, .inl h, t⟩
  | tupK h t => exact ⟨_, _, rfl, h H, t⟩
def gTupA (n : Nat) (gs : AGs) : AG := fun d ρ M P => ∃ ds, d = .tup ds ∧ ds.length = n ∧ gs ds ρ M P
theorem dg_tup {es : List Expr} {j : Nat} {gs : AGs} {n : Nat} {vs : List Nat} (hc : X.calm = true) (h : DenGs X es vs gs) (hn : (assignEach es X.env).length = n := by rfl) (hst : (assignEach es X.env).findIdx? (·.1) = none := by rfl) : DenG X (.Tuple es j pos) vs (gTupA n gs) :=
  ⟨fun F v d ρ M P W σ H Q S dv tk q hP => fun pins s u I r => by
    obtain ⟨ds, rfl, hl, q⟩ := q
    obtain ⟨a, xs, rfl, hs, dvs⟩ := dv.tup_inv
    exact (pg_tup hc (pgs_gt (X := X)) hn hst).run pins s σ H _ u Q I r ⟨a, xs, rfl, hs, dvs.length.trans hl, h.run F xs ds ρ M P W σ H Q S dvs tk q hP⟩⟩
/-- target = value -/
def aAsg (te : AE) (g : AG) : AS := fun ρ M k => te ρ M (fun d M' => g d ρ M' k.nx) (fun x M' => k.ex x ρ M')
theorem ds_asg {tg : Expr} {g : AG} {vs : List Nat} (he : DenE X e te) (hg : DenG X tg vs g) (hs : swapsWithSole [tg] e pos.line X.env = pure false := by rfl) (hw : swappedStores [tg] e X.env = pure none := by rfl)
    (h1 : (assignEach [tg] X.env).map (·.2) = [assign tg X.env] := by rfl) : DenS X (.Assign [tg] e pos) (aAsg te g) :=
  ⟨fun F ρ M k W σ H D S tk h L => fun pins s I => (ps_asg (pe_ew (X := X)) (pg_gt (X := X)) hs hw h1).run pins s σ H D I
    (he.run F ρ M _ _ W σ H _ S tk h (fun v d M' H' s m dv q => hg.run F v d ρ M' k.nx W σ H' D.nx (S.step s m) dv tk q fun ρ2 M2 σ2 H2 s2 S2 _ p => L.nx ρ2 M2 σ2 H2 (s.trans s2) S2 p) (L.lx S))⟩
theorem ds_set (i : Nat) {x : Str} {pos' : Pos} (hN : X.N.Nodup) (he : DenE X e te) (hi : X.N[i]? = some x := by rfl) (hx : Loc X.env.scope x := by first | exact Or.inl rfl | exact Or.inr rfl) (hs : swapsWith e (some (.Name x pos')) pos.line X.env = pure false := by rfl) (hf : X.fn x = true ∨ X.env.scope.names.lookup x = some .local := by first | exact .inl rfl | exact .inr rfl | assumption) :
    DenS X (.Assign [.Name x pos'] e pos) (aAsg te (gNameA i)) :=
  ⟨fun F ρ M k W σ H D S tk h L => fun pins s I => (ps_set hN hi hx (pe_ew (X := X)) hs hf).run pins s σ H D I
    (he.run F ρ M _ _ W σ H _ S tk h (fun v d M' H' s m dv q => L.nx _ M' _ H' s ⟨by rw [sS_set]; exact (S.sl.step s).set dv i, m⟩ q) (L.lx S))⟩

/-! ### for -/
/-- items xs, drawn one by one: at turn i the i-th, the heap perhaps grown -/
def ItOk (X : Cx) (J : It) (xs : List D) (H : Hp) (F : List Addr) (M : Mem) : Prop := ∀ F' H' M', StepX F H M H' M' → FrGo H F F' → MSt X.K H' F' M' →
  (∀ i d, xs[i]? = some d → J.go i H' ∧ ∀ x H2, J.yld i H' x H2 → Step H' M' H2 M' ∧ MSt X.K H2 F' M' ∧ DV X.K H2 (um F' M') x d) ∧ J.stop xs.length H'
abbrev AI := Rho → Mem → (List D → Mem → Prop) → XKA → Prop
def IW (X : Cx) (tg iter : Expr) : TI := fun σ H R => ∀ (pins : List (Addr × Obj)) (s : Shared), Inv X pins σ H s →
  wpAny (model X.prog X.w) X.A (eval iter X.env) (fun v s1 => wpAny (model X.prog X.w) X.A (pyIter v) (PIE X pins σ tg R) X.xe s1) X.xe s
theorem pi_iw {tg iter : Expr} : PI X tg iter (IW X tg iter) := ⟨fun pins s σ H R I h => h pins s I⟩
structure DenI (X : Cx) (tg iter : Expr) (ai : AI) : Prop where
  run : ∀ (F : List Addr) (ρ : Rho) (M : Mem) (P : List D → Mem → Prop) (EX : XKA) (W : WX) (σ : L2.St) (H : Hp) (R : It → Hp → Prop), Sta X H F M σ ρ → Takes X W → ai ρ M P EX →
    (∀ J xs M' H', Step H M H' M' → MSt X.K H' F M' → ItOk X J xs H' F M' → P xs M' → R J H') → LX X H F M EX (fun cls d H' => W cls d σ H') → IW X tg iter σ H R
/-- the turns of a loop over items, by an invariant -/
def LoopA (g : AG) (body : AS) (k : KE) (xs : List D) (ρ : Rho) (M : Mem) : Prop := ∃ J : Nat → Rho → Mem → Prop, J 0 ρ M ∧
  (∀ i d ρ' M', xs[i]? = some d → J i ρ' M' → g d ρ' M' (fun ρ1 M1 => body ρ1 M1 { k with nx := J (i + 1), ct := J (i + 1), bk := k.nx })) ∧ ∀ ρ' M', J xs.length ρ' M' → k.nx ρ' M'
/-- the turns one by one -/
def loopR (g : AG) (body : AS) (k : KE) : List D → Rho → Mem → Prop
  | [], ρ, M => k.nx ρ M
  | d :: r, ρ, M => g d ρ M (fun ρ1 M1 => body ρ1 M1 { k with nx := fun ρ' M' => loopR g body k r ρ' M', ct := fun ρ' M' => loopR g body k r ρ' M', bk := k.nx })
theorem LoopA.turns {g : AG} {body : AS} {k : KE} {xs : List D} {ρ : Rho} {M : Mem} (h : loopR g body k xs ρ M) : LoopA g body k xs ρ M := by
  refine ⟨fun i ρ M => loopR g body k (xs.drop i) ρ M, h, fun i d ρ' M' e q => ?_, fun ρ' M' q => ?_⟩
  · have e2 : xs.drop i = d :: xs.drop (i + 1) := by
      obtain ⟨hl, e3⟩ := List.getElem?_eq_some_iff.mp e
      rw [List.drop_eq_getElem_cons hl, e3]
    have q2 : loopR g body k (xs.drop i) ρ' M' := q
    rw [e2] at q2
    exact q2
  · have q2 : loopR g body k (xs.drop xs.length) ρ' M' := q
    rw [List.drop_length] at q2
    exact q2
def aFor (ai : AI) (g : AG) (body : AS) : AS := fun ρ M k => ai ρ M (fun xs M1 => LoopA g body k xs ρ M1) (fun x M' => k.ex x ρ M')
theorem ds_for {tg iter : Expr} {body : List Stmt} {ai : AI} {g : AG} {tb : AS} {vs : List Nat} (hp : PassesOwn (model X.prog X.w) X.A X.env X.xe) (hc : X.calm = true) (hi : DenI X tg iter ai) (hg : DenG X tg vs g) (hb : DenB X body tb)
    (hs : ∀ x, foldedSetIterable iter X.env x = pure x := by intro _; rfl) : DenS X (.For tg iter body [] pos) (aFor ai g tb) :=
  ⟨fun F ρ M k W σ H D S tk h L => fun pins s I => by
    refine (ps_for hp hc (pi_iw (X := X)) (pg_gt (X := X)) (pss_bw (X := X)) hs).run pins s σ H D I ?_
    refine hi.run F ρ M _ _ W σ H _ S tk h (fun J xs M1 H1 s1 m1 io hL => ?_) (L.lx S)
    obtain ⟨Jv, h0, hstep, hd⟩ := hL
    refine ⟨fun i m σ' H' => m + i = xs.length ∧ ∃ ρ' M', Step H1 M1 H' M' ∧ Sta X H' F M' σ' ρ' ∧ Jv i ρ' M', ⟨xs.length, Nat.add_zero _, ρ, M1, Step.refl _ _, S.step s1 m1, h0⟩, ?_⟩
    rintro i m σ' H' ⟨hm, ρ', M', s', S', hj⟩
    obtain ⟨ho, hstop⟩ := io F H' M' s'.toX FrGo.refl S'.ms
    by_cases hi' : i = xs.length
    · subst hi'
      exact Or.inl ⟨hstop, L.nx ρ' M' σ' H' (s1.trans s') S' (hd ρ' M' hj)⟩
    · have hlt : i < xs.length := by omega
      obtain ⟨d, hd'⟩ : ∃ d, xs[i]? = some d := ⟨_, List.getElem?_eq_getElem hlt⟩
      obtain ⟨hgo, hy⟩ := ho i d hd'
      refine Or.inr ⟨hgo, fun σ2 H2 => ∃ ρ2 M2, Step H1 M1 H2 M2 ∧ Sta X H2 F M2 σ2 ρ2 ∧ Jv (i + 1) ρ2 M2, fun σ2 H2 q => ⟨m - 1, by omega, by omega, q⟩, fun x H2 hyl => ?_⟩
      obtain ⟨s2, m2, dx⟩ := hy x H2 hyl
      refine hg.run F x d ρ' M' _ W σ' H2 _ (S'.step s2 m2) dx tk (hstep i d ρ' M' hd' hj) fun ρ3 M3 σ3 H3 s3 S3 _ q3 => ?_
      have l3 := ((s1.trans s').trans s2).trans s3
      refine hb.run F ρ3 M3 _ W σ3 H3 _ S3 tk q3 ⟨fun ρ4 M4 σ4 H4 s4 S4 q4 => ⟨ρ4, M4, ((s'.trans s2).trans s3).trans s4, S4, q4⟩, fun v d' M4 H4 s4 m4 dv q4 => L.rt v d' M4 H4 (l3.trans s4) m4 dv q4,
        fun ρ4 M4 σ4 H4 s4 S4 q4 => L.nx ρ4 M4 σ4 H4 (l3.trans s4) S4 q4, fun ρ4 M4 σ4 H4 s4 S4 q4 => ⟨ρ4, M4, ((s'.trans s2).trans s3).trans s4, S4, q4⟩, fun x' ρ4 M4 cls dd σ4 H4 s4 S4 xv q4 => L.ex x' ρ4 M4 cls dd σ4 H4 (l3.trans s4) S4 xv q4⟩⟩

/-! ### what is walked -/
/-- a list or tuple that isn't changed -/
inductive SeqA : D → List D → Prop
  | tup {l : List D} : SeqA (.tup l) l
  | lst {l : List D} : SeqA (.lst l) l
  | lsk {l : List D} : SeqA (.lsk l) l
def iLstA (te : AE) : AI := fun ρ M P EX => te ρ M (fun d M1 => ∃ l, (d = .lst l ∨ d = .lsk l) ∧ P l M1) EX
def iTupA (te : AE) : AI := fun ρ M P EX => te ρ M (fun d M1 => ∃ l, d = .tup l ∧ P l M1) EX
/-- a list in memory, unchanged while the loop runs: the loop's body must leave it so (its entry is asked for at each turn) -/
theorem DV.list_inv {K : PySem.W.Frag} {H : Hp} {U : List Addr} {v : V} {ds : List D} (h : DV K H U v (.lst ds) ∨ DV K H U v (.lsk ds)) : ∃ a xs, v = .ref a ∧ SqL K H a xs ∧ DVs K H U xs ds := by
  rcases h with h | h
  · cases h with
    | lst h hn t => exact ⟨_, _, rfl, SqL.of h, t⟩
  · cases h with
    | lsk h hn t => exact ⟨_, _, rfl, .inl h, t⟩
    | lskK h t => exact ⟨_, _, rfl, h H, t⟩
theorem it_list {J : It} {a : Addr} {xs : List V} {ds : List D} {H : Hp} {F : List Addr} {M : Mem} (hJ : J = Itl X.K a) (hs : ∀ F' H' M', StepX F H M H' M' → FrGo H F F' → SqL X.K H' a xs ∧ DVs X.K H' (um F' M') xs ds)
    : ItOk X J ds H F M := fun F' H' M' s' f' m' => by
  subst hJ
  obtain ⟨h1, h2⟩ := hs F' H' M' s' f'
  refine ⟨fun i d e => ?_, ⟨xs, h1, Nat.le_of_eq h2.length⟩⟩
  obtain ⟨x, ex, dx⟩ := h2.get e
  refine ⟨⟨xs, x, h1, ex⟩, fun y H2 q => ?_⟩
  obtain ⟨rfl, q⟩ := q
  have := q xs h1
  rw [ex] at this; cases this
  exact ⟨Step.refl _ _, m', dx⟩
theorem it_tup {J : It} {a : Addr} {xs : List V} {ds : List D} {H : Hp} {F : List Addr} {M : Mem} (hJ : J = Itt X.K a) (hs : ∀ F' H' M', StepX F H M H' M' → FrGo H F F' → SqT X.K H' a xs ∧ DVs X.K H' (um F' M') xs ds)
    : ItOk X J ds H F M := fun F' H' M' s' f' m' => by
  subst hJ
  obtain ⟨h1, h2⟩ := hs F' H' M' s' f'
  refine ⟨fun i d e => ?_, ⟨xs, h1, Nat.le_of_eq h2.length⟩⟩
  obtain ⟨x, ex, dx⟩ := h2.get e
  refine ⟨⟨xs, x, h1, ex⟩, fun y H2 q => ?_⟩
  obtain ⟨rfl, q⟩ := q
  have := q xs h1
  rw [ex] at this; cases this
  exact ⟨Step.refl _ _, m', dx⟩
theorem di_list {tg l : Expr} {tl : AE} (hl : DenE X l tl) : DenI X tg l (iLstA tl) :=
  ⟨fun F ρ M P EX W σ H R S tk h hP hX => fun pins s I => (pi_list (pe_ew (X := X))).run pins s σ H R I
    (hl.run F ρ M _ EX W σ H _ S tk h (fun v d M1 H1 s1 m1 dv q => by
      obtain ⟨ds, hd, q⟩ := q
      rcases hd with rfl | rfl
      · cases dv with
        | lst h hn t => exact ⟨_, rfl, ⟨_, SqL.of h⟩, hP _ ds M1 H1 s1 m1 (it_list rfl fun F' H' M' s' f' => ⟨SqL.of (s'.keepU h hn), t.step2X s' f'⟩) q⟩
      · cases dv with
        | lsk h hn t => exact ⟨_, rfl, ⟨_, .inl h⟩, hP _ ds M1 H1 s1 m1 (it_list rfl fun F' H' M' s' f' => ⟨.inl (s'.rd h hn), t.step2X s' f'⟩) q⟩
        | lskK h t => exact ⟨_, rfl, ⟨_, h H1⟩, hP _ ds M1 H1 s1 m1 (it_list rfl fun F' H' M' s' f' => ⟨h H', t.step2X s' f'⟩) q⟩) hX)⟩
theorem di_tup {tg l : Expr} {tl : AE} (hl : DenE X l tl) : DenI X tg l (iTupA tl) :=
  ⟨fun F ρ M P EX W σ H R S tk h hP hX => fun pins s I => (pi_tup (pe_ew (X := X))).run pins s σ H R I
    (hl.run F ρ M _ EX W σ H _ S tk h (fun v d M1 H1 s1 m1 dv q => by
      obtain ⟨ds, rfl, q⟩ := q
      cases dv with
      | tup h hn t => exact ⟨_, rfl, ⟨_, .inl h⟩, hP _ ds M1 H1 s1 m1 (it_tup rfl fun F' H' M' s' f' => ⟨.inl (s'.rd h hn), t.step2X s' f'⟩) q⟩
      | tupK h t => exact ⟨_, rfl, ⟨_, h H1⟩, hP _ ds M1 H1 s1 m1 (it_tup rfl fun F' H' M' s' f' => ⟨h H', t.step2X s' f'⟩) q⟩) hX)⟩
/-- lo, lo + 1, .. -/
def rngD (lo : Int) (n : Nat) : List D := (List.range n).map fun (i : Nat) => D.int (lo + (i : Int))
theorem rngD_length {lo : Int} {n : Nat} : (rngD lo n).length = n := by simp [rngD]
theorem rngD_get {lo : Int} {n i : Nat} {d : D} (h : (rngD lo n)[i]? = some d) : i < n ∧ d = .int (lo + (i : Int)) := by
  have hi : i < n := by
    have := (List.getElem?_eq_some_iff.mp h).1
    rwa [rngD_length] at this
  refine ⟨hi, ?_⟩
  simp [rngD, hi] at h
  exact h.symm
theorem it_rng {lo : Int} {n : Nat} {H : Hp} {F : List Addr} {M : Mem} : ItOk X (Itr lo n) (rngD lo n) H F M := fun F' H' M' s' f' m' => by
  refine ⟨fun i d e => ?_, by rw [rngD_length]; exact Nat.le_refl n⟩
  obtain ⟨hi, rfl⟩ := rngD_get e
  refine ⟨hi, fun y H2 q => ?_⟩
  obtain ⟨rfl, rfl⟩ := q
  exact ⟨Step.refl _ _, m', .int _⟩
theorem DVs.rngI : ∀ {K : PySem.W.Frag} {H : Hp} {U : List Addr} {vs : List V} {ds : List D} {is : List Int}, DVs K H U vs ds → ds = is.map D.int → vs = is.map V.int
  | _, _, _, _, _, [], .nil, _ => rfl
  | _, _, _, _, _, i :: is, .cons a b, e => by
    cases e
    cases a
    rw [DVs.rngI b rfl]; rfl
  | _, _, _, _, _, [], .cons _ _, e => by cases e
  | _, _, _, _, _, _ :: _, .nil, e => by cases e
def iRngA1 (t : AA) : AI := fun ρ M P EX => t ρ M (fun ds M1 => ∃ j : Int, ds = [.int j] ∧ -(2 ^ 62) ≤ j ∧ j < 2 ^ 62 ∧ P (rngD 0 j.toNat) M1) EX
def iRngA2 (t : AA) : AI := fun ρ M P EX => t ρ M (fun ds M1 => ∃ i j : Int, ds = [.int i, .int j] ∧ (-(2 ^ 62) ≤ i ∧ i < 2 ^ 62 ∧ -(2 ^ 62) ≤ j ∧ j < 2 ^ 62) ∧ P (rngD i (j - i).toNat) M1) EX
theorem di_range1 {tg a : Expr} {t : AA} {p pos : Pos} (hm : X.mg "range" = none) (ha : DenA X [a] t) (hg : Gl X "range" := by rfl) (hs : starEach [a] X.env = [(false, eval a X.env)] := by rfl) : DenI X tg (.Call (.Name "range" p) [a] [] pos) (iRngA1 t) :=
  ⟨fun F ρ M P EX W σ H R S tk h hP hX => fun pins s I => (pi_range1 hg hm (pa_gw (X := X)) hs).run pins s σ H R I
    (ha.run F ρ M _ EX W σ H _ S tk h (fun vs ds M1 H1 s1 m1 dv q => by
      obtain ⟨j, rfl, b1, b2, q⟩ := q
      exact ⟨j, DVs.rngI dv (is := [j]) rfl, b1, b2, hP _ _ M1 H1 s1 m1 it_rng q⟩) hX)⟩
theorem di_range2 {tg a b : Expr} {t : AA} {p pos : Pos} (hm : X.mg "range" = none) (ha : DenA X [a, b] t) (hg : Gl X "range" := by rfl) (hs : starEach [a, b] X.env = [(false, eval a X.env), (false, eval b X.env)] := by rfl) (hs2 : starEach [b] X.env = [(false, eval b X.env)] := by rfl) : DenI X tg (.Call (.Name "range" p) [a, b] [] pos) (iRngA2 t) :=
  ⟨fun F ρ M P EX W σ H R S tk h hP hX => fun pins s I => (pi_range2 hg hm (pa_gw (X := X)) hs hs2).run pins s σ H R I
    (ha.run F ρ M _ EX W σ H _ S tk h (fun vs ds M1 H1 s1 m1 dv q => by
      obtain ⟨i, j, rfl, b1, q⟩ := q
      exact ⟨i, j, DVs.rngI dv (is := [i, j]) rfl, b1, hP _ _ M1 H1 s1 m1 it_rng q⟩) hX)⟩
end
end Ab
set_option maxRecDepth 100000
set_option maxHeartbeats 2000000
/-! Ab4: calls, defs, methods, instances. -/
namespace Ab
open PySem L2 PyProof.Rows

/-- what a def promises, over data -/
abbrev ASp := List D → Mem → AK → XKA → Prop
def spOf (K : PySem.W.Frag) (S : ASp) : Sp := fun vs H Q E => ∃ (F : List Addr) (ds : List D) (M : Mem) (P : AK) (EX : XKA), DVs K H (um F M) vs ds ∧ MSt K H F M ∧ S ds M P EX ∧
  (∀ v d M' H', Step H M H' M' → MSt K H' F M' → DV K H' (um F M') v d → P d M' → Q v H') ∧
  (∀ x M' cls dd H', Step H M H' M' → MSt K H' F M' → XV K H' (um F M') x cls dd → EX x M' → E cls dd H')
/-- memory parted: what a callee sees, the rest -/
def Split (M Mc Mr : Mem) : Prop := (Mc ++ Mr).Perm M
theorem Split.all {M : Mem} : Split M M [] := by unfold Split; rw [List.append_nil]
theorem Split.none {M : Mem} : Split M [] M := List.Perm.refl _
theorem Split.mem {M Mc Mr : Mem} (h : Split M Mc Mr) {p : Addr × MO} : p ∈ M ↔ p ∈ Mc ∨ p ∈ Mr := by
  rw [← h.mem_iff, List.mem_append]
theorem Split.dm {M Mc Mr : Mem} (h : Split M Mc Mr) {a : Addr} : a ∈ dom M ↔ a ∈ dom Mc ∨ a ∈ dom Mr := by
  have e : (dom (Mc ++ Mr)).Perm (dom M) := h.map _
  rw [← e.mem_iff]; simp [dom]
theorem Split.umm {M Mc Mr : Mem} (h : Split M Mc Mr) {F : List Addr} {a : Addr} : a ∈ um F M ↔ a ∈ um (dom Mr ++ F) Mc := by
  simp only [um, List.mem_append, h.dm, or_assoc]
theorem Split.nd {M Mc Mr : Mem} (h : Split M Mc Mr) (n : (dom M).Nodup) : (dom Mc).Nodup ∧ (dom Mr).Nodup ∧ ∀ a ∈ dom Mc, a ∉ dom Mr := by
  have e : (dom (Mc ++ Mr)).Perm (dom M) := h.map _
  have n2 : (dom (Mc ++ Mr)).Nodup := e.symm.nodup n
  have e2 : dom (Mc ++ Mr) = dom Mc ++ dom Mr := by simp [dom]
  rw [e2] at n2
  obtain ⟨a, b, c⟩ := List.nodup_append.mp n2
  exact ⟨a, b, fun x hx hy => c x hx x hy rfl⟩
def CallM (S : ASp) (ds : List D) (M : Mem) (P : AK) (EX : XKA) : Prop := ∃ Mc Mr, Split M Mc Mr ∧ S ds Mc (fun d Mc' => P d (Mc' ++ Mr)) (fun x Mc' => EX x (Mc' ++ Mr))

section
variable {K : PySem.W.Frag} {H H' : Hp} {F : List Addr} {M Mc Mr Mc' : Mem}
theorem Split.mst (h : Split M Mc Mr) (m : MSt K H F M) : MSt K H (dom Mr ++ F) Mc := by
  obtain ⟨n1, n2, n3⟩ := h.nd m.nd
  refine ⟨n1, fun p hp => (m.ok p (h.mem.mpr (Or.inl hp))).anti fun a ha => h.umm.mpr ha, fun b hb => ?_⟩
  rcases List.mem_append.mp hb with z | z
  · exact ⟨fun y => n3 b y z, m.there (List.mem_append_left _ (h.dm.mpr (Or.inr z)))⟩
  · exact ⟨fun y => (m.fr b z).1 (h.dm.mpr (Or.inl y)), (m.fr b z).2⟩
theorem dom_cat {A B : Mem} : dom (A ++ B) = dom A ++ dom B := by simp [dom]
theorem um_cat {A B : Mem} {a : Addr} : a ∈ um F (A ++ B) ↔ a ∈ um (dom B ++ F) A := by
  simp only [um, dom_cat, List.mem_append, or_assoc]
theorem Split.back (h : Split M Mc Mr) (m : MSt K H F M) (s : Step H Mc H' Mc') (m' : MSt K H' (dom Mr ++ F) Mc') : Step H M H' (Mc' ++ Mr) ∧ MSt K H' F (Mc' ++ Mr) := by
  obtain ⟨n1, n2, n3⟩ := h.nd m.nd
  refine ⟨⟨fun b o hb e => s.keep b o (fun z => hb (h.dm.mpr (Or.inl z))) e, fun b hb => ?_⟩, ⟨?_, fun p hp => ?_, fun b hb => ?_⟩⟩
  · rw [dom_cat] at hb
    rcases List.mem_append.mp hb with z | z
    · exact (s.new b z).imp (fun y => h.dm.mpr (Or.inl y)) id
    · exact Or.inl (h.dm.mpr (Or.inr z))
  · rw [dom_cat]
    refine List.nodup_append.mpr ⟨m'.nd, n2, fun a ha b hb e => ?_⟩
    subst e
    exact (m'.fr a (List.mem_append_left _ hb)).1 ha
  · rcases List.mem_append.mp hp with z | z
    · exact (m'.ok p z).anti fun a ha => um_cat.mp ha
    · have hd : p.1 ∈ dom Mr := List.mem_map_of_mem (f := (·.1)) z
      have h0 := (m.ok p (h.mem.mpr (Or.inr z))).anti (U' := um (dom Mr ++ F) Mc) fun a ha => h.umm.mpr ha
      obtain ⟨u, e⟩ := h0.there
      have e2 : H' p.1 = H p.1 := by rw [e]; exact s.keep _ _ (fun y => n3 _ y hd) e
      exact (h0.step e2 s).anti fun a ha => um_cat.mp ha
  · refine ⟨fun z => ?_, (m'.fr b (List.mem_append_right _ hb)).2⟩
    rw [dom_cat] at z
    rcases List.mem_append.mp z with z | z
    · exact (m'.fr b (List.mem_append_right _ hb)).1 z
    · exact (m.fr b hb).1 (h.dm.mpr (Or.inr z))
end

section
variable {X : Cx} {k : Nat} {f C : Addr} {fd : FuncData} {ps : List Str} {S : ASp} {W : WX}
/-- a callee that keeps its promise, whatever its arguments' binding -/
theorem run_any {sp : Sp} {pins : List (Addr × Obj)} {σ : L2.St} {H : Hp} {s : Shared} {Q : VK} {us bs : List Value} {kw : List (Str × Value)} {vs : List V} (G : FnOk X.prog X.w X.K X.mg X.base (L2.CX X.prog X.w) k f fd ps sp) (hr : Room k X.A) (tk : Takes X W) (I : Inv X pins σ H s)
    (hb : BindsTo s fd ⟨us, kw⟩ (ps.zip bs)) (r : Vals vs bs) (h : sp vs H Q (fun cls d H' => W cls d σ H')) : wpAny (model X.prog X.w) X.A (call (.ref f) us kw) (EP X pins σ Q) X.xe s := by
  have run := G.run X.A X.stack s H ⟨us, kw⟩ bs vs Q _ hr I.env0 hb r h
  refine wpAny_call (codeAny_mono run fun res s' hq => ?_)
  match res, hq with
  | .error e, hq => exact tk e s' (XE.of_call I (fun _ _ _ z => z) hq)
  | .ok (.ret u), hq => exact I.after hq
/-- the same of a class: a new instance, then its __init__ -/
theorem run_mk {sp : Sp} {pins : List (Addr × Obj)} {σ : L2.St} {H : Hp} {s : Shared} {Q : VK} {us bs : List Value} {kw : List (Str × Value)} {vs : List V} (N : Mk X.K C f) (G : FnOk X.prog X.w X.K X.mg X.base (L2.CX X.prog X.w) k f fd ps sp) (hr : Room (k + 1) X.A) (tk : Takes X W) (I : Inv X pins σ H s)
    (hb : ∀ (t : Shared) (x : Addr), X.K.In t.heap → BindsTo t fd ⟨.ref x :: us, kw⟩ (ps.zip (.ref x :: bs))) (r : Vals vs bs)
    (h : ∀ x dx, H x = none → H dx = none → dx ≠ x → sp (.ref x :: vs) (upd (upd H dx (.own x)) x (.ins C dx [])) (fun v H2 => v = .non ∧ Q (.ref x) H2) (fun cls d H' => W cls d σ H')) :
    wpAny (model X.prog X.w) X.A (call (.ref C) us kw) (EP X pins σ Q) X.xe s := by
  have hq := h (s.heap.objs.size + 1) s.heap.objs.size (I.hok.fresh (Nat.le_succ _)) (I.hok.fresh (Nat.le_refl _)) (Nat.ne_of_lt (Nat.lt_succ_self _))
  have J := Inv.made (C := C) I
  have r2 : Vals (V.ref (s.heap.objs.size + 1) :: vs) (Value.ref (s.heap.objs.size + 1) :: bs) := .cons rfl r
  have run := G.run _ X.stack _ _ ⟨Value.ref (s.heap.objs.size + 1) :: us, kw⟩ (Value.ref (s.heap.objs.size + 1) :: bs) _ _ _ (hr.make C us kw) (J.env0.make C us kw) (hb _ _ J.kIn) r2 hq
  refine wpAny_call (make_map (f := f) I.kIn N.makes N.init (beq_iff_eq.mp N.fn) (codeAny_mono run fun res s' z => ?_))
  match res, z with
  | .error e, z => exact tk e s' (XE.of_call J (fun _ _ _ y => y) z)
  | .ok (.ret u), z =>
    obtain ⟨v, H', I3, rv, ev, q3⟩ := J.after z
    subst ev
    exact ⟨rv, ⟨V.ref (s.heap.objs.size + 1), H', I3, rfl, q3⟩⟩

/-- what a call over data asks, for what the call's run asks -/
theorem callM_sp {F : List Addr} {M : Mem} {H : Hp} {vs : List V} {ds : List D} {P : AK} {EX : XKA} {Q : VK} {E : XK} (m : MSt X.K H F M) (dv : DVs X.K H (um F M) vs ds) (h : CallM S ds M P EX)
    (hP : ∀ v d M' H', Step H M H' M' → MSt X.K H' F M' → DV X.K H' (um F M') v d → P d M' → Q v H') (hX : LX X H F M EX E) : spOf X.K S vs H Q E := by
  obtain ⟨Mc, Mr, sp, h⟩ := h
  refine ⟨dom Mr ++ F, ds, Mc, _, _, dv.anti fun a ha => sp.umm.mpr ha, sp.mst m, h, fun v d M' H' s m' dv' p => ?_, fun x M' cls dd H' s m' xv p => ?_⟩
  · obtain ⟨s2, m2⟩ := sp.back m s m'
    exact hP v d _ H' s2 m2 (dv'.anti fun a ha => um_cat.mp ha) p
  · obtain ⟨s2, m2⟩ := sp.back m s m'
    refine hX x _ cls dd H' s2 m2 ?_ p
    obtain ⟨e1, e2⟩ := xv
    refine ⟨e1, ?_⟩
    cases q : x.fs with
    | none => rw [q] at e2; exact e2
    | some fs =>
      rw [q] at e2
      obtain ⟨a, ws, y1, y2, y3, y4⟩ := e2
      exact ⟨a, ws, y1, y2, fun z => y3 (um_cat.mp z), y4.anti fun a ha => um_cat.mp ha⟩

/-! ### f(e, ..) -/
/-- how the arguments of a call come to the parameters: g of the data, written arguments and keywords -/
structure KB (K : PySem.W.Frag) (fd : FuncData) (ps : List Str) (ks : List Str) (n m : Nat) (g : List D → List D → List D) : Prop where
  to : ∃ (gV : List V → List V → List V) (gU : List Value → List Value → List Value), (∀ (s : Shared) (us ws : List Value), K.In s.heap → us.length = n → ws.length = m → BindsTo s fd ⟨us, ks.zip ws⟩ (ps.zip (gU us ws))) ∧
    (∀ (vs zs : List V) (us ws : List Value), vs.length = n → zs.length = m → Vals vs us → Vals zs ws → Vals (gV vs zs) (gU us ws)) ∧
    ∀ (H : Hp) (U : List Addr) (vs zs : List V) (ds es : List D), vs.length = n → zs.length = m → DVs K H U vs ds → DVs K H U zs es → DVs K H U (gV vs zs) (g ds es)
def aCall (S : ASp) (g : List D → List D → List D) (n : Nat) (t : AA) : AE := fun ρ M P EX => t ρ M (fun ds M1 => ds.length = n ∧ CallM S (g ds []) M1 P EX) EX
variable {x m : Str} {p pos apos : Pos} {e o : Expr} {es : List Expr} {t tk' : AA} {ta : AE} {n : Nat} {g : List D → List D → List D}
theorem kb_run {K : PySem.W.Frag} {ks : List Str} {m' : Nat} (B : KB K fd ps ks n m' g) {H : Hp} {U : List Addr} {vs zs : List V} {ds es : List D} {us ws : List Value} (dv : DVs K H U vs ds) (dz : DVs K H U zs es) (h1 : ds.length = n) (h2 : es.length = m') (r : Vals vs us) (rz : Vals zs ws) {s : Shared} (X' : K.In s.heap) :
    ∃ ys bs, BindsTo s fd ⟨us, ks.zip ws⟩ (ps.zip bs) ∧ Vals ys bs ∧ DVs K H U ys (g ds es) := by
  obtain ⟨gV, gU, b1, b2, b3⟩ := B.to
  have l1 : vs.length = n := dv.length.trans h1
  have l2 : zs.length = m' := dz.length.trans h2
  exact ⟨gV vs zs, gU us ws, b1 s us ws X' (r.length.symm.trans l1) (rz.length.symm.trans l2), b2 _ _ _ _ l1 l2 r rz, b3 H U _ _ _ _ l1 l2 dv dz⟩
theorem de_call (G : FnOk X.prog X.w X.K X.mg X.base (L2.CX X.prog X.w) k f fd ps (spOf X.K S)) (hr : Room k X.A) (hm : X.mg x = some (.ref f)) (hk : PySem.W.keepIn X.K (.ref f) = true) (B : KB X.K fd ps [] n 0 g) (ha : DenA X (e :: es) t)
    (hg : Gl X x := by rfl) (hdb : (x == ("__debug__" : Str)) = false := by decide) (he : starEach (e :: es) X.env = (false, eval e X.env) :: starEach es X.env := by rfl) (hpl : (backTo pos (starEach es X.env)).any (·.1) = false := by rfl) :
    DenE X (.Call (.Name x p) (e :: es) [] pos) (aCall S g n t) :=
  ⟨fun F ρ M P EX W σ H Q S' tk h hP hX => fun pins s I => by
    refine wpAny_Call_Name_kw (ld_glob I hg hm ?_ hdb)
    refine PySem.W.callWith_K (h₀ := X.base) I.ok.mod.kin hk ?_ he hpl
    refine thn (ha.run F ρ M _ EX W σ H (fun vs H1 => ∃ ds M1, Step H M H1 M1 ∧ MSt X.K H1 F M1 ∧ DVs X.K H1 (um F M1) vs ds ∧ ds.length = n ∧ CallM S (g ds []) M1 P EX) S' tk h (fun vs ds M1 H1 s1 m1 dv q => ⟨ds, M1, s1, m1, dv, q⟩) hX pos pins s I) ?_
    rintro us s1 ⟨vs, H1, I1, r, ds, M1, st1, m1, dv, hl, q⟩
    refine ⟨I1.kIn, ?_⟩
    obtain ⟨ys, bs, b1, b2, b3⟩ := kb_run B dv (zs := []) (es := []) (ws := []) .nil hl rfl r .nil I1.kIn
    exact run_any G hr tk I1 b1 b2 (callM_sp m1 b3 q (fun v d M' H' st mm dd p => hP v d M' H' (st1.trans st) mm dd p) (hX.step st1))⟩
theorem de_call0 (G : FnOk X.prog X.w X.K X.mg X.base (L2.CX X.prog X.w) k f fd ps (spOf X.K S)) (hr : Room k X.A) (hm : X.mg x = some (.ref f)) (hk : PySem.W.keepIn X.K (.ref f) = true) (B : KB X.K fd ps [] 0 0 g)
    (hg : Gl X x := by rfl) (hdb : (x == ("__debug__" : Str)) = false := by decide) :
    DenE X (.Call (.Name x p) [] [] pos) (aCall S g 0 aNil) :=
  ⟨fun F ρ M P EX W σ H Q S' tk h hP hX => fun pins s I => by
    obtain ⟨_, q⟩ := h
    refine wpAny_Call_Name_kw (ld_glob I hg hm ?_ hdb)
    refine PySem.W.callWith_K0 I.kIn hk ?_
    obtain ⟨ys, bs, b1, b2, b3⟩ := kb_run B (H := H) (U := um F M) (vs := []) (ds := []) (us := []) (zs := []) (es := []) (ws := []) .nil .nil rfl rfl .nil .nil I.kIn
    exact run_any G hr tk I b1 b2 (callM_sp S'.ms b3 q hP hX)⟩
/-! ### keywords -/
structure DenK (X : Cx) (kws : List Keyword) (t : AA) : Prop where
  run : ∀ (F : List Addr) (ρ : Rho) (M : Mem) (P : List D → Mem → Prop) (EX : XKA) (W : WX) (σ : L2.St) (H : Hp) (Q : List V → Hp → Prop), Sta X H F M σ ρ → Takes X W → t ρ M P EX →
    (∀ v d M' H', Step H M H' M' → MSt X.K H' F M' → DVs X.K H' (um F M') v d → P d M' → Q v H') → LX X H F M EX (fun cls d H' => W cls d σ H') →
    ∀ (pos : Pos) (pins : List (Addr × Obj)) (s : Shared), Inv X pins σ H s → wpAny (model X.prog X.w) X.A (evalAll ((backToKw pos (keywordEach kws X.env)).map (·.2))) (AP X pins σ Q) X.xe s
def KWv (X : Cx) (kws : List Keyword) : TA := fun σ H Q => ∀ (pos : Pos) (pins : List (Addr × Obj)) (s : Shared), Inv X pins σ H s → wpAny (model X.prog X.w) X.A (evalAll ((backToKw pos (keywordEach kws X.env)).map (·.2))) (AP X pins σ Q) X.xe s
theorem pk_kw {kws : List Keyword} : PK X kws (KWv X kws) := ⟨fun pos pins s _ _ _ I h => h pos pins s I⟩
theorem dk_nil : DenK X [] aNil := ⟨fun F ρ M P EX W σ H Q S tk h hP hX => fun pos pins s I => pk_nil.run pos pins s σ H Q I (hP [] [] M H (Step.refl H M) S.ms .nil h)⟩
theorem dk_cons {nm : Option Str} {kpos : Pos} {kws : List Keyword} {te : AE} (ha : DenE X e te) (hr : DenK X kws t) : DenK X (⟨nm, e, kpos⟩ :: kws) (aCons te t) :=
  ⟨fun F ρ M P EX W σ H Q S tk h hP hX => fun pos pins s I => (pk_cons (pe_ew (X := X)) (pk_kw (X := X))).run pos pins s σ H Q I
    (ha.run F ρ M _ EX W σ H _ S tk h (fun v x M1 H1 s1 m1 dv q =>
      hr.run F ρ M1 _ EX W σ H1 _ (S.step s1 m1) tk q (fun vs xs M2 H2 s2 m2 dvs p => hP _ _ M2 H2 (s1.trans s2) m2 (.cons (dv.step s2) dvs) p) (hX.step s1)) hX)⟩
/-- f(e, .., k = v, ..) -/
def aCallK (S : ASp) (g : List D → List D → List D) (n m : Nat) (t tk : AA) : AE := fun ρ M P EX => t ρ M (fun ds M1 => tk ρ M1 (fun es M2 => ds.length = n ∧ es.length = m ∧ CallM S (g ds es) M2 P EX) EX) EX
theorem de_callK {kws : List Keyword} {ks : List Str} {m' : Nat} (G : FnOk X.prog X.w X.K X.mg X.base (L2.CX X.prog X.w) k f fd ps (spOf X.K S)) (hr : Room k X.A) (hm : X.mg x = some (.ref f)) (hk : PySem.W.keepIn X.K (.ref f) = true) (B : KB X.K fd ps ks n m' g) (ha : DenA X (e :: es) t) (hkw : DenK X kws tk')
    (hg : Gl X x := by rfl) (hall : (backToKw pos (keywordEach kws X.env)).all (·.1.isSome) = true := by rfl) (hks : (backToKw pos (keywordEach kws X.env)).filterMap (·.1) = ks := by rfl)
    (hdb : (x == ("__debug__" : Str)) = false := by decide) (he : starEach (e :: es) X.env = (false, eval e X.env) :: starEach es X.env := by rfl)
    (hpl : ((backTo pos (starEach (e :: es) X.env)).any (·.1) || (backToKw pos (keywordEach kws X.env)).any (·.1.isNone)) = false := by rfl) :
    DenE X (.Call (.Name x p) (e :: es) kws pos) (aCallK S g n m' t tk') :=
  ⟨fun F ρ M P EX W σ H Q S' tk h hP hX => fun pins s I => by
    refine wpAny_Call_Name_kw (ld_glob I hg hm ?_ hdb)
    refine PySem.W.callWith_KW (h₀ := X.base) I.ok.mod.kin hk hall ?_ hpl he
    refine thn (ha.run F ρ M _ EX W σ H (fun vs H1 => ∃ ds M1, Step H M H1 M1 ∧ MSt X.K H1 F M1 ∧ DVs X.K H1 (um F M1) vs ds ∧ tk' ρ M1 (fun es M2 => ds.length = n ∧ es.length = m' ∧ CallM S (g ds es) M2 P EX) EX) S' tk h (fun vs ds M1 H1 s1 m1 dv q => ⟨ds, M1, s1, m1, dv, q⟩) hX pos pins s I) ?_
    rintro us s1 ⟨vs, H1, I1, r, ds, M1, st1, m1, dv, q⟩
    refine thn (hkw.run F ρ M1 _ EX W σ H1 (fun zs H2 => ∃ es M2, Step H1 M1 H2 M2 ∧ MSt X.K H2 F M2 ∧ DVs X.K H2 (um F M2) zs es ∧ ds.length = n ∧ es.length = m' ∧ CallM S (g ds es) M2 P EX) (S'.step st1 m1) tk q (fun vs ds M1 H1 s1 m1 dv q => ⟨ds, M1, s1, m1, dv, q⟩) (hX.step st1) pos pins s1 I1) ?_
    rintro ws s2 ⟨zs, H2, I2, rz, es', M2, st2, m2, dz, hl, hl2, q2⟩
    refine ⟨I2.kIn, ?_⟩
    rw [hks]
    obtain ⟨ys, bs, b1, b2, b3⟩ := kb_run B (dv.step st2) dz hl hl2 r rz I2.kIn
    exact run_any G hr tk I2 b1 b2 (callM_sp m2 b3 q2 (fun v d M' H' st mm dd p => hP v d M' H' ((st1.trans st2).trans st) mm dd p) (hX.step (st1.trans st2)))⟩

/-! ### instances -/
/-- an instance: of data that doesn't change, or in memory -/
inductive InsA (M : Mem) : D → Addr → List (Str × D) → Prop
  | fr {C : Addr} {fs : List (Str × D)} : InsA M (.obj C fs) C fs
  | mu {a C : Addr} {fs : List (Str × D)} : (a, MO.ins C fs) ∈ M → InsA M (.ref a) C fs
theorem InsA.inv {K : PySem.W.Frag} {H : Hp} {F : List Addr} {M : Mem} {d : D} {C : Addr} {fs : List (Str × D)} {v : V} (h : InsA M d C fs) (m : MSt K H F M) (dv : DV K H (um F M) v d) : ∃ a dx ws, v = .ref a ∧ H a = some (.ins C dx ws) ∧ DFs K H (um F M) ws fs := by
  cases h with
  | fr => cases dv with
    | obj h hn t => exact ⟨_, _, _, rfl, h, t⟩
  | mu hm =>
    cases dv
    obtain ⟨dx, ws, e1, e2⟩ := m.ok _ hm
    exact ⟨_, dx, ws, rfl, e1, e2⟩
def aFld (C : Addr) (f : Str) (ta : AE) : AE := fun ρ M P EX => ta ρ M (fun d M1 => ∃ fs v, InsA M1 d C fs ∧ fs.lookup f = some v ∧ P v M1) EX
theorem de_fld {fl : Str} (c1 : Cls X.K C) (c2 : NoAttr X.K C fl) (ha : DenE X o ta) (hb : attributeBase o fl X.env (eval o X.env) = eval o X.env := by rfl) : DenE X (.Attribute o fl pos) (aFld C fl ta) :=
  ⟨fun F ρ M P EX W σ H Q S tk h hP hX => (pe_fld (pe_ew (X := X)) hb).ew (ha.run F ρ M _ EX W σ H _ S tk h (fun v d M1 H1 s1 m1 dv q => by
    obtain ⟨fs, w, hi, hf, q⟩ := q
    obtain ⟨a, dx, ws, rfl, e1, e2⟩ := hi.inv m1 dv
    obtain ⟨y, e3, e4⟩ := e2.look hf
    exact ⟨a, C, dx, ws, y, rfl, e1, c1, c2, e3, hP y w M1 H1 s1 m1 e4 q⟩) hX)⟩
end
end Ab
set_option maxRecDepth 100000
set_option maxHeartbeats 2000000
/-! Ab5: methods, instances made, fields stored, errors raised, defs, comprehensions. -/
namespace Ab
open PySem L2 PyProof.Rows

section
variable {X : Cx} {k : Nat} {f C : Addr} {fd : FuncData} {ps : List Str} {S : ASp} {x m : Str} {p pos apos : Pos} {e o : Expr} {es : List Expr} {t tk' : AA} {ta te : AE} {n : Nat} {g : List D → List D → List D}
/-- o.m(e, .., k = v, ..) -/
def aMeth (C : Addr) (m : Str) (S : ASp) (g : List D → List D → List D) (n n2 : Nat) (ta : AE) (t tk : AA) : AE := fun ρ M P EX => ta ρ M (fun d M0 => (∃ fs, InsA M0 d C fs ∧ fs.lookup m = none) ∧
  t ρ M0 (fun ds M1 => tk ρ M1 (fun es M2 => (d :: ds).length = n ∧ es.length = n2 ∧ CallM S (g (d :: ds) es) M2 P EX) EX) EX) EX
theorem de_meth {pl : Sem Bool} (c : Cls X.K C) (hm : Meth X.K C m f) (G : FnOk X.prog X.w X.K X.mg X.base (L2.CX X.prog X.w) k f fd ps (spOf X.K S)) (hr : Room k X.A) (B : KB X.K fd ps [] n 0 g) (ho : DenE X o ta) (ha : DenA X (e :: es) t)
    (hst : starEach (e :: es) X.env = (false, eval e X.env) :: starEach es X.env := by rfl) (hpl : (backTo pos (starEach es X.env)).any (·.1) = false := by rfl)
    (ht : eval (.Call (.Attribute o m apos) (e :: es) [] pos) X.env = (do
        let ov ← eval o X.env
        standAt apos.atName
        let (f, first) ← holding [ov] (getMethod ov m pl)
        callWith pos f first (backTo pos (starEach (e :: es) X.env)) (backToKw pos (keywordEach [] X.env))) := by rfl) :
    DenE X (.Call (.Attribute o m apos) (e :: es) [] pos) (aMeth C m S g n 0 ta t aNil) :=
  ⟨fun F ρ M P EX W σ H Q S' tk h hP hX => fun pins s I => by
    refine PySem.W.methodCall_KW (pl := pl) ?_ ht
    refine thn (ho.run F ρ M _ EX W σ H (fun v H0 => ∃ d M0, Step H M H0 M0 ∧ MSt X.K H0 F M0 ∧ DV X.K H0 (um F M0) v d ∧ (∃ fs, InsA M0 d C fs ∧ fs.lookup m = none) ∧ t ρ M0 (fun ds M1 => (d :: ds).length = n ∧ 0 = 0 ∧ CallM S (g (d :: ds) []) M1 P EX) EX) S' tk h (fun v d M0 H0 s0 m0 dv q => ⟨d, M0, s0, m0, dv, q⟩) hX pins s I) ?_
    rintro u s0 ⟨v, H0, I0, rv, d, M0, st0, m0, dv, ⟨fs, hi, hl⟩, q⟩
    obtain ⟨a, dx, ws, rfl, e1, e2⟩ := hi.inv m0 dv
    obtain rfl : u = Value.ref a := rv
    refine getmeth_ok I0 e1 c hm (e2.look_none hl) ?_
    refine PySem.W.callWith_K (first := [.ref a]) (h₀ := X.base) I.ok.mod.kin hm.kp ?_ hst hpl
    refine thn (ha.run F ρ M0 _ EX W σ H0 (fun vs H1 => ∃ ds M1, Step H0 M0 H1 M1 ∧ MSt X.K H1 F M1 ∧ DVs X.K H1 (um F M1) vs ds ∧ (d :: ds).length = n ∧ CallM S (g (d :: ds) []) M1 P EX) (S'.step st0 m0) tk q (fun vs ds M1 H1 s1 m1 dv q => ⟨ds, M1, s1, m1, dv, q.1, q.2.2⟩) (hX.step st0) pos pins s0 I0) ?_
    rintro us s1 ⟨vs, H1, I1, r, ds, M1, st1, m1, dvs, hl2, q2⟩
    refine ⟨I1.kIn, ?_⟩
    have r2 : Vals (V.ref a :: vs) (Value.ref a :: us) := .cons rfl r
    obtain ⟨ys, bs, b1, b2, b3⟩ := kb_run B (DVs.cons (dv.step st1) dvs) (zs := []) (es := []) (ws := []) .nil hl2 rfl r2 .nil I1.kIn
    exact run_any G hr tk I1 b1 b2 (callM_sp m1 b3 q2 (fun v d M' H' st mm dd p => hP v d M' H' ((st0.trans st1).trans st) mm dd p) (hX.step (st0.trans st1)))⟩
theorem de_meth0 {pl : Sem Bool} (c : Cls X.K C) (hm : Meth X.K C m f) (G : FnOk X.prog X.w X.K X.mg X.base (L2.CX X.prog X.w) k f fd ps (spOf X.K S)) (hr : Room k X.A) (B : KB X.K fd ps [] 1 0 g) (ho : DenE X o ta)
    (ht : eval (.Call (.Attribute o m apos) [] [] pos) X.env = (do
        let ov ← eval o X.env
        standAt apos.atName
        let (f, first) ← holding [ov] (getMethod ov m pl)
        callWith pos f first (backTo pos (starEach [] X.env)) (backToKw pos (keywordEach [] X.env))) := by rfl) :
    DenE X (.Call (.Attribute o m apos) [] [] pos) (aMeth C m S g 1 0 ta aNil aNil) :=
  ⟨fun F ρ M P EX W σ H Q S' tk h hP hX => fun pins s I => by
    refine PySem.W.methodCall_KW (pl := pl) ?_ ht
    refine thn (ho.run F ρ M _ EX W σ H (fun v H0 => ∃ d M0, Step H M H0 M0 ∧ MSt X.K H0 F M0 ∧ DV X.K H0 (um F M0) v d ∧ (∃ fs, InsA M0 d C fs ∧ fs.lookup m = none) ∧ CallM S (g [d] []) M0 P EX) S' tk h (fun v d M0 H0 s0 m0 dv q => ⟨d, M0, s0, m0, dv, q.1, q.2.2.2⟩) hX pins s I) ?_
    rintro u s0 ⟨v, H0, I0, rv, d, M0, st0, m0, dv, ⟨fs, hi, hl⟩, q⟩
    obtain ⟨a, dx, ws, rfl, e1, e2⟩ := hi.inv m0 dv
    obtain rfl : u = Value.ref a := rv
    refine getmeth_ok I0 e1 c hm (e2.look_none hl) ?_
    refine PySem.W.callWith_K0 (first := [.ref a]) I0.kIn hm.kp ?_
    have r2 : Vals [V.ref a] [Value.ref a] := .cons rfl .nil
    obtain ⟨ys, bs, b1, b2, b3⟩ := kb_run B (DVs.one dv) (zs := []) (es := []) (ws := []) .nil rfl rfl r2 .nil I0.kIn
    exact run_any G hr tk I0 b1 b2 (callM_sp m0 b3 q (fun v d M' H' st mm dd p => hP v d M' H' (st0.trans st) mm dd p) (hX.step st0))⟩

/-! ### C(e, .., k = v, ..) -/
/-- the new instance, kept as data that doesn't change any more -/
def aMake (C : Addr) (S : ASp) (g : List D → List D → List D) (n n2 : Nat) (t tk : AA) : AE := fun ρ M P EX => t ρ M (fun ds M1 => tk ρ M1 (fun es M2 => ds.length = n ∧ es.length = n2 ∧ ∀ x, x ∉ dom M2 →
  CallM S (g (.ref x :: ds) es) ((x, MO.ins C []) :: M2) (fun v M3 => v = .non ∧ ∃ fs Mr, Split M3 [(x, MO.ins C fs)] Mr ∧ P (.obj C fs) Mr) (fun e M3 => ∃ Mr, (∃ o, Split M3 [(x, o)] Mr) ∧ EX e Mr)) EX) EX
/-- .. as one that may change -/
def aMakeM (C : Addr) (S : ASp) (g : List D → List D → List D) (n n2 : Nat) (t tk : AA) : AE := fun ρ M P EX => t ρ M (fun ds M1 => tk ρ M1 (fun es M2 => ds.length = n ∧ es.length = n2 ∧ ∀ x, x ∉ dom M2 →
  CallM S (g (.ref x :: ds) es) ((x, MO.ins C []) :: M2) (fun v M3 => v = .non ∧ P (.ref x) M3) (fun e M3 => ∃ Mr, (∃ o, Split M3 [(x, o)] Mr) ∧ EX e Mr)) EX) EX
theorem step_inst {H : Hp} {M : Mem} {x dx : Addr} {o o2 : HO} {mo : MO} (hx : H x = none) (hd : H dx = none) : Step H M (upd (upd H dx o) x o2) ((x, mo) :: M) :=
  ⟨fun b u _ e => by rw [upd_ne (ne_of_none e hx), upd_ne (ne_of_none e hd)]; exact e, fun b hb => by
    rcases List.mem_cons.mp hb with h | h
    · rw [h]; exact Or.inr hx
    · exact Or.inl h⟩
theorem mst_inst {K : PySem.W.Frag} {H : Hp} {F : List Addr} {M : Mem} {x dx C : Addr} (m : MSt K H F M) (hx : H x = none) (hd : H dx = none) : MSt K (upd (upd H dx (.own x)) x (.ins C dx [])) F ((x, MO.ins C []) :: M) := by
  have st := step_inst (M := M) (o := .own x) (o2 := .ins C dx []) (mo := MO.ins C []) hx hd
  refine ⟨List.nodup_cons.mpr ⟨fun z => m.notin hx (List.mem_append_left _ z), m.nd⟩, fun p hp => ?_, fun b hb => ⟨fun z => ?_, ?_⟩⟩
  · rcases List.mem_cons.mp hp with h | h
    · rw [h]; exact ⟨dx, [], upd_same, .nil⟩
    · obtain ⟨u, e⟩ := (m.ok p h).there
      exact (m.ok p h).step (by rw [upd_ne (ne_of_none e hx), upd_ne (ne_of_none e hd)]) st
  · rcases List.mem_cons.mp z with h | h
    · rw [h] at hb; exact m.notin hx (List.mem_append_right _ hb)
    · exact (m.fr b hb).1 h
  · obtain ⟨u, e⟩ := (m.fr b hb).2
    exact ⟨u, by rw [upd_ne (ne_of_none e hx), upd_ne (ne_of_none e hd)]; exact e⟩
/-- an entry is frozen or forgotten -/
theorem split_one {K : PySem.W.Frag} {H : Hp} {F : List Addr} {M Mr : Mem} {x : Addr} {o : MO} (m : MSt K H F M) (h : Split M [(x, o)] Mr) : MSt K H F Mr ∧ Step H M H Mr ∧ MoOk K H (um F Mr) x o ∧ x ∉ um F Mr := by
  obtain ⟨n1, n2, n3⟩ := h.nd m.nd
  have sub : ∀ a ∈ um F Mr, a ∈ um F M := fun a ha => (List.mem_append.mp ha).elim (fun z => List.mem_append_left _ (h.dm.mpr (Or.inr z))) fun z => List.mem_append_right _ z
  refine ⟨⟨n2, fun p hp => (m.ok p (h.mem.mpr (Or.inr hp))).anti sub, fun b hb => ⟨fun z => (m.fr b hb).1 (h.dm.mpr (Or.inr z)), (m.fr b hb).2⟩⟩, ⟨fun _ _ _ e => e, fun b hb => Or.inl (h.dm.mpr (Or.inr hb))⟩, (m.ok _ (h.mem.mpr (Or.inl List.mem_cons_self))).anti sub, fun z => ?_⟩
  rcases List.mem_append.mp z with z | z
  · exact n3 x (by simp [dom]) z
  · exact (m.fr x z).1 (h.dm.mpr (Or.inl (by simp [dom])))
theorem MoOk.obj {K : PySem.W.Frag} {H : Hp} {U : List Addr} {x C : Addr} {fs : List (Str × D)} (h : MoOk K H U x (.ins C fs)) (hn : x ∉ U) : DV K H U (.ref x) (.obj C fs) := by
  obtain ⟨dx, ws, e1, e2⟩ := h
  exact .obj e1 hn e2
theorem MoOk.lst' {K : PySem.W.Frag} {H : Hp} {U : List Addr} {x : Addr} {ds : List D} (h : MoOk K H U x (.lst ds)) (hn : x ∉ U) : DV K H U (.ref x) (.lst ds) := by
  obtain ⟨ws, e1, e2⟩ := h
  exact .lst e1 hn e2
theorem XV.anti {K : PySem.W.Frag} {H : Hp} {U U' : List Addr} {x : Exc} {cls : Value} {d : Option Addr} (f : ∀ a ∈ U', a ∈ U) (h : XV K H U x cls d) : XV K H U' x cls d := by
  obtain ⟨e1, e2⟩ := h
  refine ⟨e1, ?_⟩
  cases q : x.fs with
  | none => rw [q] at e2; exact e2
  | some fs =>
    rw [q] at e2
    obtain ⟨a, ws, y1, y2, y3, y4⟩ := e2
    exact ⟨a, ws, y1, y2, fun z => y3 (f _ z), y4.anti f⟩
/-- what a making over data asks, for what its run asks -/
theorem make_sp {F : List Addr} {M : Mem} {H : Hp} {vs : List V} {ds : List D} {P : AK} {EX : XKA} {Q : VK} {E : XK} (mt : Bool) (hm : MSt X.K H F M) (dv : DVs X.K H (um F M) vs ds)
    (h : ∀ x, x ∉ dom M → CallM S (.ref x :: ds) ((x, MO.ins C []) :: M) (fun v M3 => v = .non ∧ (if mt = true then P (.ref x) M3 else ∃ fs Mr, Split M3 [(x, MO.ins C fs)] Mr ∧ P (.obj C fs) Mr)) (fun e M3 => ∃ Mr, (∃ o, Split M3 [(x, o)] Mr) ∧ EX e Mr))
    (hP : ∀ v d M' H', Step H M H' M' → MSt X.K H' F M' → DV X.K H' (um F M') v d → P d M' → Q v H') (hX : LX X H F M EX E) :
    ∀ x dx, H x = none → H dx = none → dx ≠ x → spOf X.K S (.ref x :: vs) (upd (upd H dx (.own x)) x (.ins C dx [])) (fun v H2 => v = .non ∧ Q (.ref x) H2) E := fun x dx hx hd ne => by
  have st := step_inst (M := M) (o := .own x) (o2 := .ins C dx []) (mo := MO.ins C []) hx hd
  have m2 := mst_inst (C := C) (dx := dx) hm hx hd
  refine callM_sp m2 (.cons (.ref x) (dv.step st)) (h x fun z => hm.notin hx (List.mem_append_left _ z)) (fun v d M' H' s' m' dv' q => ?_) fun e M' cls dd H' s' m' xv q => ?_
  · obtain ⟨rfl, q⟩ := q
    refine ⟨dv'.non', ?_⟩
    cases mt with
    | true =>
      rw [if_pos rfl] at q
      exact hP _ _ M' H' (st.trans s') m' (.ref x) q
    | false =>
      rw [if_neg Bool.false_ne_true] at q
      obtain ⟨fs, Mr, sp, q⟩ := q
      obtain ⟨m3, s3, o3, n3⟩ := split_one m' sp
      exact hP _ _ Mr H' ((st.trans s').trans s3) m3 (o3.obj n3) q
  · obtain ⟨Mr, ⟨o, sp⟩, q⟩ := q
    obtain ⟨m3, s3, o3, n3⟩ := split_one m' sp
    exact hX e Mr cls dd H' ((st.trans s').trans s3) m3 (xv.anti fun a ha => (List.mem_append.mp ha).elim (fun z => List.mem_append_left _ (sp.dm.mpr (Or.inr z))) fun z => List.mem_append_right _ z) q
/-- how the arguments of a making come to the parameters: the new instance ahead -/
structure KM (K : PySem.W.Frag) (fd : FuncData) (ps : List Str) (ks : List Str) (n m : Nat) (g : List D → List D → List D) : Prop where
  to : ∃ (gV : List V → List V → List V) (gU : List Value → List Value → List Value), (∀ (s : Shared) (x : Addr) (us ws : List Value), K.In s.heap → us.length = n → ws.length = m → BindsTo s fd ⟨.ref x :: us, ks.zip ws⟩ (ps.zip (.ref x :: gU us ws))) ∧
    (∀ (vs zs : List V) (us ws : List Value), vs.length = n → zs.length = m → Vals vs us → Vals zs ws → Vals (gV vs zs) (gU us ws)) ∧
    (∀ (H : Hp) (U : List Addr) (vs zs : List V) (ds es : List D), vs.length = n → zs.length = m → DVs K H U vs ds → DVs K H U zs es → DVs K H U (gV vs zs) (g ds es))
def aMk (mt : Bool) (C : Addr) (S : ASp) (g : List D → List D → List D) (n n2 : Nat) (t tk : AA) : AE := fun ρ M P EX => t ρ M (fun ds M1 => tk ρ M1 (fun es M2 => ds.length = n ∧ es.length = n2 ∧ ∀ x, x ∉ dom M2 →
  CallM S (.ref x :: g ds es) ((x, MO.ins C []) :: M2) (fun v M3 => v = .non ∧ (if mt = true then P (.ref x) M3 else ∃ fs Mr, Split M3 [(x, MO.ins C fs)] Mr ∧ P (.obj C fs) Mr)) (fun e M3 => ∃ Mr, (∃ o, Split M3 [(x, o)] Mr) ∧ EX e Mr)) EX) EX
theorem de_make {kws : List Keyword} {ks : List Str} {n2 : Nat} (mt : Bool) (N : Mk X.K C f) (G : FnOk X.prog X.w X.K X.mg X.base (L2.CX X.prog X.w) k f fd ps (spOf X.K S)) (hr : Room (k + 1) X.A) (hm : X.mg x = some (.ref C)) (B : KM X.K fd ps ks n n2 g) (ha : DenA X (e :: es) t) (hkw : DenK X kws tk')
    (hg : Gl X x := by rfl) (hall : (backToKw pos (keywordEach kws X.env)).all (·.1.isSome) = true := by rfl) (hks : (backToKw pos (keywordEach kws X.env)).filterMap (·.1) = ks := by rfl)
    (hdb : (x == ("__debug__" : Str)) = false := by decide) (he : starEach (e :: es) X.env = (false, eval e X.env) :: starEach es X.env := by rfl)
    (hpl : ((backTo pos (starEach (e :: es) X.env)).any (·.1) || (backToKw pos (keywordEach kws X.env)).any (·.1.isNone)) = false := by rfl) :
    DenE X (.Call (.Name x p) (e :: es) kws pos) (aMk mt C S g n n2 t tk') :=
  ⟨fun F ρ M P EX W σ H Q S' tk h hP hX => fun pins s I => by
    refine wpAny_Call_Name_kw (ld_glob I hg hm ?_ hdb)
    refine PySem.W.callWith_KW (h₀ := X.base) I.ok.mod.kin N.kp hall ?_ hpl he
    refine thn (ha.run F ρ M _ EX W σ H (fun vs H1 => ∃ ds M1, Step H M H1 M1 ∧ MSt X.K H1 F M1 ∧ DVs X.K H1 (um F M1) vs ds ∧ _) S' tk h (fun vs ds M1 H1 s1 m1 dv q => ⟨ds, M1, s1, m1, dv, q⟩) hX pos pins s I) ?_
    rintro us s1 ⟨vs, H1, I1, r, ds, M1, st1, m1, dv, q⟩
    refine thn (hkw.run F ρ M1 _ EX W σ H1 (fun zs H2 => ∃ es M2, Step H1 M1 H2 M2 ∧ MSt X.K H2 F M2 ∧ DVs X.K H2 (um F M2) zs es ∧ _) (S'.step st1 m1) tk q (fun vs ds M1 H1 s1 m1 dv q => ⟨ds, M1, s1, m1, dv, q⟩) (hX.step st1) pos pins s1 I1) ?_
    rintro ws s2 ⟨zs, H2, I2, rz, es', M2, st2, m2, dz, hl, hl2, q2⟩
    refine ⟨I2.kIn, ?_⟩
    rw [hks]
    obtain ⟨gV, gU, b1, b2, b3⟩ := B.to
    have l1 : vs.length = n := dv.length.trans hl
    have l2 : zs.length = n2 := dz.length.trans hl2
    exact run_mk N G hr tk I2 (fun t' y kin => b1 t' y us ws kin (r.length.symm.trans l1) (rz.length.symm.trans l2)) (b2 _ _ _ _ l1 l2 r rz)
      (make_sp mt m2 (b3 H2 _ _ _ _ _ l1 l2 (dv.step st2) dz) q2 (fun v d M' H' st mm dd p => hP v d M' H' ((st1.trans st2).trans st) mm dd p) (hX.step (st1.trans st2)))⟩

/-! ### memory changed at a place -/
inductive PutM : Mem → Addr → MO → MO → Mem → Prop
  | here {a : Addr} {o o' : MO} {r : Mem} : PutM ((a, o) :: r) a o o' ((a, o') :: r)
  | there {a : Addr} {o o' : MO} {r r' : Mem} {q : Addr × MO} : PutM r a o o' r' → PutM (q :: r) a o o' (q :: r')
theorem PutM.dm : ∀ {M M' : Mem} {a : Addr} {o o' : MO}, PutM M a o o' M' → dom M' = dom M
  | _, _, _, _, _, .here => rfl
  | _, _, _, _, _, .there h => by simp only [dom, List.map_cons]; congr 1; exact h.dm
theorem PutM.old : ∀ {M M' : Mem} {a : Addr} {o o' : MO}, PutM M a o o' M' → (a, o) ∈ M
  | _, _, _, _, _, .here => List.mem_cons_self
  | _, _, _, _, _, .there h => List.mem_cons_of_mem _ h.old
theorem PutM.mem : ∀ {M M' : Mem} {a : Addr} {o o' : MO}, PutM M a o o' M' → (dom M).Nodup → ∀ q ∈ M', q = (a, o') ∨ (q ∈ M ∧ q.1 ≠ a)
  | _, _, a, _, _, .here, nd, q, hq => by
    rcases List.mem_cons.mp hq with h | h
    · exact Or.inl h
    · refine Or.inr ⟨List.mem_cons_of_mem _ h, fun z => ?_⟩
      have n := (List.nodup_cons.mp nd).1
      exact n (by rw [← z]; exact List.mem_map_of_mem (f := (·.1)) h)
  | _, _, a, _, _, .there (q := q0) h, nd, q, hq => by
    obtain ⟨n1, n2⟩ := List.nodup_cons.mp nd
    rcases List.mem_cons.mp hq with z | z
    · subst z
      refine Or.inr ⟨List.mem_cons_self, fun e => n1 ?_⟩
      show q.1 ∈ _
      rw [e]
      exact List.mem_map_of_mem (f := (·.1)) h.old
    · rcases h.mem n2 q z with y | y
      · exact Or.inl y
      · exact Or.inr ⟨List.mem_cons_of_mem _ y.1, y.2⟩
theorem PutM.step {M M' : Mem} {a : Addr} {o o' : MO} {H : Hp} {ho : HO} (h : PutM M a o o' M') : Step H M (upd H a ho) M' :=
  ⟨fun b u hb e => by rw [upd_ne (fun z => hb (by rw [z]; exact List.mem_map_of_mem (f := (·.1)) h.old))]; exact e, fun b hb => Or.inl (by rw [h.dm] at hb; exact hb)⟩
theorem PutM.mst {K : PySem.W.Frag} {M M' : Mem} {a : Addr} {o o' : MO} {H : Hp} {F : List Addr} {ho : HO} (h : PutM M a o o' M') (m : MSt K H F M) (ok : MoOk K (upd H a ho) (um F M') a o') : MSt K (upd H a ho) F M' := by
  refine ⟨by rw [h.dm]; exact m.nd, fun q hq => ?_, fun b hb => ?_⟩
  · rcases h.mem m.nd q hq with z | ⟨z1, z2⟩
    · rw [z]; exact ok
    · exact (m.ok q z1).step (upd_ne z2) h.step
  · obtain ⟨e1, u, e2⟩ := m.fr b hb
    refine ⟨by rw [h.dm]; exact e1, u, ?_⟩
    rw [upd_ne (fun z => e1 (by rw [z]; exact List.mem_map_of_mem (f := (·.1)) h.old))]
    exact e2

/-! ### o.f = e -/
def putD (f : Str) (d : D) : List (Str × D) → List (Str × D)
  | [] => [(f, d)]
  | (x, y) :: r => if x = f then (x, d) :: r else (x, y) :: putD f d r
theorem DFs.put {K : PySem.W.Frag} {H : Hp} {U : List Addr} {fl : Str} {v : V} {d : D} (h : DV K H U v d) : ∀ {vs : List (Str × V)} {ds : List (Str × D)}, DFs K H U vs ds → DFs K H U (putF fl v vs) (putD fl d ds)
  | _, _, .nil => .cons h .nil
  | _, _, .cons (x := x) a t => by
    unfold putF putD
    by_cases e : x = fl
    · rw [if_pos e, if_pos e]; exact .cons h t
    · rw [if_neg e, if_neg e]; exact .cons a (DFs.put h t)
theorem DFs.length {K : PySem.W.Frag} {H : Hp} {U : List Addr} {vs : List (Str × V)} {ds : List (Str × D)} (h : DFs K H U vs ds) : vs.length = ds.length := by
  have := congrArg List.length h.names
  simpa using this
def aSetF (C : Addr) (fl : Str) (ta te : AE) : AS := fun ρ M k => te ρ M (fun y M1 => ta ρ M1 (fun d M2 => ∃ a fs M3, d = .ref a ∧ PutM M2 a (.ins C fs) (.ins C (putD fl y fs)) M3 ∧ fs.length < 1000 ∧ k.nx ρ M3) (fun x M' => k.ex x ρ M')) (fun x M' => k.ex x ρ M')
theorem ds_fld {fl : Str} {o value : Expr} {tv : AE} {pos' : Pos} (c1 : Cls X.K C) (c2 : NoAttr X.K C fl) (ho : DenE X o ta) (hv : DenE X value tv) (hs : swapsWith value (some (.Attribute o fl pos')) pos.line X.env = pure false := by rfl) : DenS X (.Assign [.Attribute o fl pos'] value pos) (aSetF C fl ta tv) :=
  ⟨fun F ρ M k W σ H D S tk h L => fun pins s I => (ps_fld (pe_ew (X := X)) (pe_ew (X := X)) hs).run pins s σ H D I
    (hv.run F ρ M _ _ W σ H _ S tk h (fun w y M1 H1 s1 m1 dw q => ho.run F ρ M1 _ _ W σ H1 _ (S.step s1 m1) tk q (fun v d M2 H2 s2 m2 dv q2 => by
      obtain ⟨a, fs, M3, rfl, hp, hl, q2⟩ := q2
      cases dv
      obtain ⟨dx, ws, e1, e2⟩ := m2.ok _ hp.old
      refine ⟨a, C, dx, ws, rfl, e1, c1, c2, by rw [e2.length]; exact hl, ?_⟩
      have st := hp.step (H := H2) (ho := .ins C dx (putF fl w ws))
      have m3 := hp.mst (ho := .ins C dx (putF fl w ws)) m2 ⟨dx, _, upd_same, DFs.put ((dw.step s2).step st) (e2.step st)⟩
      exact L.nx ρ M3 σ _ ((s1.trans s2).trans st) (S.step ((s1.trans s2).trans st) m3) q2) ((L.step s1).lx (S.step s1 m1))) (L.lx S))⟩

/-! ### raise -/
def aRaise (x : Exc) : AS := fun ρ M k => k.ex x ρ M
theorem ds_raise {bmB : List Value} {B newId initId : String} {y msg : Str} {j : Nat} {p2 pos2 : Pos} (hc : X.calm = true) (Fb : ExcBaseFacts B newId initId bmB) (q : PySem.W.excIn X.K C bmB newId = true) (gC : X.mg y = some (.ref C)) (kC : PySem.W.keepIn X.K (.ref C) = true) (r : Raises X (.ref C)) (hg : Gl X y := by rfl)
    (hdb : (y == ("__debug__" : Str)) = false := by decide) : DenS X (.Raise (some (.Call (.Name y p) [.Constant (.str msg) j p2] [] pos)) none pos2) (aRaise ⟨C, none⟩) :=
  ⟨fun F ρ M k W σ H D S tk h L => fun pins s I => (ps_raise hc tk (pmk_own Fb q gC kC r hg hdb)).run pins s σ H D I (L.ex ⟨C, none⟩ ρ M _ _ σ H (Step.refl H M) S ⟨rfl, rfl⟩ h)⟩

/-! ### a def keeps its promise -/
/-- memory with less in it -/
def Less (M1 M : Mem) : Prop := M1.Sublist M
theorem Less.refl {M : Mem} : Less M M := List.Sublist.refl M
theorem Less.step {M1 M : Mem} (l : Less M1 M) {H : Hp} : Step H M H M1 := ⟨fun _ _ _ e => e, fun b hb => Or.inl ((l.map _).subset hb)⟩
theorem Less.um {M1 M : Mem} (l : Less M1 M) {F : List Addr} : ∀ a ∈ um F M1, a ∈ um F M := fun a ha =>
  (List.mem_append.mp ha).elim (fun z => List.mem_append_left _ ((l.map _).subset z)) fun z => List.mem_append_right _ z
theorem Less.mst {K : PySem.W.Frag} {M1 M : Mem} {H : Hp} {F : List Addr} (l : Less M1 M) (m : MSt K H F M) : MSt K H F M1 :=
  ⟨(l.map _).nodup m.nd, fun p hp => (m.ok p (l.subset hp)).anti l.um, fun b hb => ⟨fun z => (m.fr b hb).1 ((l.map _).subset z), (m.fr b hb).2⟩⟩
/-- behind a def: memory may be forgotten -/
def retK (P : AK) (EX : XKA) : KE := ⟨fun _ M => ∃ M1, Less M1 M ∧ P .non M1, fun d M => ∃ M1, Less M1 M ∧ P d M1, fun _ _ => False, fun _ _ => False, fun x _ M => ∃ M1, Less M1 M ∧ EX x M1⟩
def startA (N : List Str) (ds : List D) : Rho := ds.map some ++ List.replicate (N.length - ds.length) none
theorem start_sl {K : PySem.W.Frag} {H : Hp} {U : List Addr} {N : List Str} {vs : List V} {ds : List D} (h : DVs K H U vs ds) : SlOk K H U (L2.start N vs) (startA N ds) := by
  unfold L2.start startA
  refine ⟨by simp [h.length], fun i d e => ?_⟩
  by_cases hi : i < ds.length
  · rw [List.getElem?_append_left (by simpa using hi), List.getElem?_map] at e
    cases q : ds[i]? with
    | none => rw [q] at e; cases e
    | some d' =>
      rw [q] at e
      cases e
      obtain ⟨v, e1, e2⟩ := h.get q
      have hv : i < vs.length := by rw [h.length]; exact hi
      exact ⟨v, by rw [List.getElem?_append_left (by simpa using hv), List.getElem?_map, e1]; rfl, e2⟩
  · rw [List.getElem?_append_right (by simpa using hi), List.getElem?_replicate] at e
    split at e <;> cases e
theorem afn {P : Program} {w : World} {K : PySem.W.Frag} {mg : Str → Option Value} {base : Heap} {nm qual : Str} {params : Arguments} {body : List Stmt} {scope : Scope} {dvs : List V} {kws : List (Str × V)} {f : Addr} {fd : FuncData} {N ps : List Str} {k : Nat} {S : ASp} {t : AS}
    (Fd : FunD K nm qual params body scope dvs kws f fd) (Sc : FnScope N ps scope) (len : ∀ ds M P EX, S ds M P EX → ds.length = ps.length)
    (den : ∀ (cdv : Value) (A : Around) (outer : List Env) (s : Shared) (H : Hp) (E : XK), Room k (A.deeper (envOfC qual scope s.heap.objs.size f cdv)) → DenB (cxOf (L2.CX P w) P w K mg base N qual scope f cdv A outer s H E) body t)
    (vc : ∀ ds M P EX, S ds M P EX → t (startA N ds) M (retK P EX)) : FnOk P w K mg base (L2.CX P w) (k + 1) f fd ps (spOf K S) := by
  refine Fd.ok Sc (fun vs H Q E h => ?_) fun cdv A outer s H vs Q E hr h => ⟨BW _ body, pss_bw, ?_⟩
  · obtain ⟨F, ds, M, P', EX, dv, _, q, _⟩ := h
    exact dv.length.trans (len _ _ _ _ q)
  · obtain ⟨F, ds, M, P', EX, dv, m, q, hP, hX⟩ := h
    have tk : Takes (cxOf (L2.CX P w) P w K mg base N qual scope f cdv A outer s H E) (fun cls d _ H' => E cls d H') := takes_of rfl rfl rfl rfl
    refine (den cdv A outer s H E hr).run F _ M _ _ _ H _ ⟨start_sl dv, m⟩ tk (vc ds M P' EX q) ⟨fun ρ' M' σ' H' st S' z => ?_, fun v d M' H' st m' dv' z => ?_, fun _ _ _ _ _ _ z => z.elim, fun _ _ _ _ _ _ z => z.elim, fun x ρ' M' cls d σ' H' st S' xv z => ?_⟩
    · obtain ⟨M1, l, z⟩ := z
      exact hP _ _ M1 H' (st.trans l.step) (l.mst S'.ms) .non z
    · obtain ⟨M1, l, z⟩ := z
      exact hP _ _ M1 H' (st.trans l.step) (l.mst m') (dv'.anti l.um) z
    · obtain ⟨M1, l, z⟩ := z
      exact hX x M1 cls d H' (st.trans l.step) (l.mst S'.ms) (xv.anti l.um) z
end
end Ab
set_option maxRecDepth 100000
set_option maxHeartbeats 2000000
/-! Ab6: list comprehensions. -/
namespace Ab
open PySem L2 PyProof.Rows

def noX : XKA := fun _ _ => False
def unS : Rho → Nat → Rho
  | [], _ => []
  | _ :: r, 0 => none :: r
  | a :: r, n + 1 => a :: unS r n
theorem unS_set : ∀ (ρ : Rho) (i : Nat), unS ρ i = ρ.set i none
  | [], _ => rfl
  | _ :: _, 0 => rfl
  | a :: r, n + 1 => by
    show a :: unS r n = _
    rw [unS_set r n]; rfl
def wipeA (ρ : Rho) : List Nat → Rho
  | [] => ρ
  | v :: vs => unS (wipeA ρ vs) v
theorem SlOk.wipe {K : PySem.W.Frag} {H : Hp} {U : List Addr} {σ : L2.St} {ρ : Rho} (h : SlOk K H U σ ρ) : ∀ vs : List Nat, SlOk K H U (L2.wipe σ vs) (wipeA ρ vs)
  | [] => h
  | v :: vs => by
    show SlOk K H U ((L2.wipe σ vs).set v none) (unS (wipeA ρ vs) v)
    rw [unS_set]
    exact (SlOk.wipe h vs).unset v
theorem wipe_in {σ : L2.St} {i : Nat} : ∀ {vs : List Nat}, i ∈ vs → i < σ.length → (L2.wipe σ vs)[i]? = some none
  | [], h, _ => by cases h
  | v :: vs, h, hl => by
    show ((L2.wipe σ vs).set v none)[i]? = some none
    by_cases e : v = i
    · subst e
      exact List.getElem?_set_self (by rw [wipe_length]; exact hl)
    · rw [List.getElem?_set_ne e]
      rcases List.mem_cons.mp h with z | z
      · exact absurd z.symm e
      · exact wipe_in z hl
/-- what a target of the block's own names leaves -/
theorem wipe_eq {σ σ2 : L2.St} {vs ws : List Nat} (h : OutEq ws (L2.wipe σ vs) σ2) (hs : ∀ i ∈ ws, i ∈ vs) : L2.wipe σ2 vs = L2.wipe σ vs := by
  have hl : σ2.length = σ.length := by rw [h.1, wipe_length]
  apply List.ext_getElem?
  intro i
  by_cases hi : i ∈ vs
  · by_cases hlt : i < σ.length
    · rw [wipe_in hi hlt, wipe_in hi (by rw [hl]; exact hlt)]
    · rw [List.getElem?_eq_none (by rw [wipe_length]; omega), List.getElem?_eq_none (by rw [wipe_length]; omega)]
  · rw [wipe_out hi]
    exact h.2 i fun z => hi (hs i z)

/-- a clause's tests -/
structure DenTs (X : Cx) (ifs : List Expr) (t : AT) : Prop where
  run : ∀ (F : List Addr) (ρ : Rho) (M : Mem) (P : Bool → Mem → Prop) (EX : XKA) (W : WX) (σ : L2.St) (H : Hp) (Q : Bool → Hp → Prop), Sta X H F M σ ρ → Takes X W → t ρ M P EX →
    (∀ b M' H', Step H M H' M' → MSt X.K H' F M' → P b M' → Q b H') → LX X H F M EX (fun cls d H' => W cls d σ H') → ∀ (pins : List (Addr × Obj)) (s : Shared), Inv X pins σ H s →
    wpAny (model X.prog X.w) X.A (forIn ifs true fun c r => if r = true then do let ok ← isTrue c X.env (eval c X.env); pure (ForInStep.yield ok) else pure (ForInStep.yield r)) (TP X pins σ Q) X.xe s
def aYes : AT := fun _ M P _ => P true M
section
variable {X : Cx}
theorem dts_nil : DenTs X [] aYes := ⟨fun F ρ M P EX W σ H Q S tk h hP hX => fun pins s I => pts_nil.run pins s σ H Q I (hP true M H (Step.refl H M) S.ms h)⟩
theorem dts_one {c : Expr} {t : AT} (h : DenT X c t) : DenTs X [c] t := ⟨fun F ρ M P EX W σ H Q S tk q hP hX => fun pins s I => (pts_one (pt_tw (X := X))).run pins s σ H Q I (h.run F ρ M P EX W σ H Q S tk q hP hX)⟩

/-- the turns of a comprehension over items: what is made so far -/
def LcA (vs : List Nat) (g : AG) (tt : AT) (te : AE) (xs : List D) (ρ : Rho) (M : Mem) (P : List D → Mem → Prop) : Prop := ∃ J : Nat → List D → Mem → Prop, J 0 [] M ∧
  (∀ i d acc M', xs[i]? = some d → J i acc M' → g d (wipeA ρ vs) M' (fun ρ2 M2 => tt ρ2 M2 (fun b M3 => (b = true → te ρ2 M3 (fun y M4 => acc.length < 100000 ∧ J (i + 1) (acc ++ [y]) M4) noX) ∧ (b = false → J (i + 1) acc M3)) noX)) ∧
  ∀ acc M', J xs.length acc M' → P acc M'
/-- .. one by one -/
def lcR (vs : List Nat) (g : AG) (tt : AT) (te : AE) (ρ : Rho) (P : List D → Mem → Prop) : List D → List D → Mem → Prop
  | [], acc, M => P acc M
  | d :: r, acc, M => g d (wipeA ρ vs) M (fun ρ2 M2 => tt ρ2 M2 (fun b M3 => (b = true → te ρ2 M3 (fun y M4 => acc.length < 100000 ∧ lcR vs g tt te ρ P r (acc ++ [y]) M4) noX) ∧ (b = false → lcR vs g tt te ρ P r acc M3)) noX)
theorem LcA.turns {vs : List Nat} {g : AG} {tt : AT} {te : AE} {xs : List D} {ρ : Rho} {M : Mem} {P : List D → Mem → Prop} (h : lcR vs g tt te ρ P xs [] M) : LcA vs g tt te xs ρ M P := by
  refine ⟨fun i acc M => lcR vs g tt te ρ P (xs.drop i) acc M, h, fun i d acc M' e q => ?_, fun acc M' q => ?_⟩
  · have e2 : xs.drop i = d :: xs.drop (i + 1) := by
      obtain ⟨hl, e3⟩ := List.getElem?_eq_some_iff.mp e
      rw [List.drop_eq_getElem_cons hl, e3]
    have q2 : lcR vs g tt te ρ P (xs.drop i) acc M' := q
    rw [e2] at q2
    exact q2
  · have q2 : lcR vs g tt te ρ P (xs.drop xs.length) acc M' := q
    rw [List.drop_length] at q2
    exact q2
/-- a comprehension's contexts -/
def Blk (X : Cx) (scope : Scope) (p : Cx → Prop) : Prop := ∀ (s : Shared) (H : Hp) (C : Addr) (cl : List (Str × Addr)) (fp : List Addr), p (X.blk s H scope (compEnvC scope cl C X.env) fp)
def aLcL (vs : List Nat) (ai : AI) (g : AG) (tt : AT) (te : AE) (R : List D → Mem → AK → Prop) : AE := fun ρ M P EX => ai ρ M (fun xs M1 => LcA vs g tt te xs ρ M1 (fun acc M2 => R acc M2 P)) EX
/-- what is made of the list: data, or an object in memory -/
def rFro : List D → Mem → AK → Prop := fun acc M P => P (.lst acc) M
def rMut : List D → Mem → AK → Prop := fun acc M P => ∀ q, q ∉ dom M → P (.ref q) (M ++ [(q, .lst acc)])
theorem takes_no {X' : Cx} : Takes X' (fun _ _ _ _ => False) := fun u s' ⟨a, B, sI, pins, σ, H, cls, d, e, I, nb, up, sky, na, os, ag, w⟩ => w.elim
theorem lx_no {X' : Cx} {H : Hp} {F : List Addr} {M : Mem} {G : XK} : LX X' H F M noX G := fun _ _ _ _ _ _ _ _ h => h.elim
theorem lc_ok {elt tg iter : Expr} {ifs : List Expr} {scope : Scope} {vs ws : List Nat} {ai : AI} {g : AG} {tt : AT} {te : AE} (b : Bool) {F : List Addr} {ρ : Rho} {M : Mem} {P : AK} {EX : XKA} {W : WX} {σ : L2.St} {H : Hp} {Q : VK}
    (hi : DenI X tg iter ai) (hg : Blk X scope fun X' => DenG X' tg ws g) (hw : ∀ i ∈ ws, i ∈ vs) (ht : Blk X scope fun X' => DenTs X' ifs tt) (he : Blk X scope fun X' => DenE X' elt te) (S : Sta X H F M σ ρ) (tk : Takes X W)
    (h : aLcL vs ai g tt te (if b = true then rMut else rFro) ρ M P EX) (hP : ∀ v d M' H', Step H M H' M' → MSt X.K H' F M' → DV X.K H' (um F M') v d → P d M' → Q v H') (hX : LX X H F M EX (fun cls d H' => W cls d σ H')) :
    tLc (IW X tg iter) (fun v σ H Q => ∀ (s : Shared) (H' : Hp) (C : Addr) (cl : List (Str × Addr)) (fp : List Addr), GT (X.blk s H' scope (compEnvC scope cl C X.env) fp) tg v σ H Q)
      (fun σ H Q => ∀ (s : Shared) (H' : Hp) (C : Addr) (cl : List (Str × Addr)) (fp : List Addr) (pins : List (Addr × Obj)) (t : Shared), Inv (X.blk s H' scope (compEnvC scope cl C X.env) fp) pins σ H t →
        wpAny (model X.prog X.w) X.A (forIn ifs true fun c r => if r = true then do let ok ← isTrue c (compEnvC scope cl C X.env) (eval c (compEnvC scope cl C X.env)); pure (ForInStep.yield ok) else pure (ForInStep.yield r)) (TP (X.blk s H' scope (compEnvC scope cl C X.env) fp) pins σ Q) (fun _ _ => False) t)
      (fun σ H Q => ∀ (s : Shared) (H' : Hp) (C : Addr) (cl : List (Str × Addr)) (fp : List Addr), EW (X.blk s H' scope (compEnvC scope cl C X.env) fp) elt σ H Q) vs σ H Q := by
  refine hi.run F ρ M _ EX W σ H _ S tk h (fun J xs M1 H1 s1 m1 io hL => ?_) hX
  intro D0 hD
  obtain ⟨Jv, h0, hstep, hd⟩ := hL
  have nD := m1.notin hD
  have st0 : Step H1 M1 (upd H1 D0 (.lst [])) M1 := step_new hD
  have mD : MSt X.K (upd H1 D0 (.lst [])) (D0 :: F) M1 := by
    have m := mst_new (o := .lst []) m1 hD
    exact ⟨m.nd, fun q hq => by
      obtain ⟨u, e⟩ := (m1.ok q hq).there
      have z := (m1.ok q hq)
      have key : ∀ {o : MO}, MoOk X.K H1 (um F M1) q.1 o → MoOk X.K (upd H1 D0 (.lst [])) (um (D0 :: F) M1) q.1 o := fun {o} z => by
        have f2 : FrGo H1 F (D0 :: F) := fun b hb => (List.mem_cons.mp hb).elim (fun y => Or.inr (by rw [y]; exact hD)) Or.inl
        have ne : upd H1 D0 (.lst []) q.1 = H1 q.1 := upd_ne (ne_of_none e hD)
        cases o with
        | lst ds => obtain ⟨a, b1, b2⟩ := z; exact ⟨a, ne.trans b1, b2.step2 st0 f2⟩
        | ins C fs => obtain ⟨a, b, b1, b2⟩ := z; exact ⟨a, b, ne.trans b1, b2.step2 st0 f2⟩
        | dK kvs => obtain ⟨a, b1, b2⟩ := z; exact ⟨a, ne.trans b1, b2.step2 st0 f2⟩
        | lk o ws kvs => obtain ⟨b1, b2⟩ := z; exact ⟨ne.trans b1, b2.step2 st0 f2⟩
        | any o => exact ne.trans z
      exact key z, fun b hb => by
      rcases List.mem_cons.mp hb with y | y
      · rw [y]; exact ⟨fun z => nD (List.mem_append_left _ z), _, upd_same⟩
      · exact m.fr b y⟩
  have f2 : FrGo H1 F (D0 :: F) := fun b hb => (List.mem_cons.mp hb).elim (fun y => Or.inr (by rw [y]; exact hD)) Or.inl
  -- the invariant of the turns
  let Wv : Nat → Hp → Prop := fun i H' => ∃ acc as M', Step H1 M1 H' M' ∧ MSt X.K H' (D0 :: F) M' ∧ H' D0 = some (.lst as) ∧ DVs X.K H' (um (D0 :: F) M') as acc ∧ Jv i acc M'
  refine ⟨fun i m H' => m + i = xs.length ∧ Wv i H', ⟨xs.length, Nat.add_zero _, [], [], M1, st0, mD, upd_same, .nil, h0⟩, ?_⟩
  rintro i m H' ⟨hm, acc, as, M', s', m', hD', dvs, hj⟩
  obtain ⟨ho, hstop⟩ := io (D0 :: F) H' M' s'.toX f2 m'
  by_cases hi' : i = xs.length
  · subst hi'
    left
    refine ⟨hstop, ?_⟩
    have mF : MSt X.K H' F M' := m'.less fun b hb => List.mem_cons_of_mem _ hb
    have nD' : D0 ∉ dom M' := (m'.fr D0 List.mem_cons_self).1
    have nF : D0 ∉ F := fun z => nD (List.mem_append_right _ z)
    have hq := hd acc M' hj
    cases b with
    | false =>
      have hq' : P (.lst acc) M' := hq
      refine hP _ _ M' H' (s1.trans s') mF (.lst hD' (fun z => (List.mem_append.mp z).elim nD' nF) (dvs.anti fun a ha => (List.mem_append.mp ha).elim (fun z => List.mem_append_left _ z) fun z => List.mem_append_right _ (List.mem_cons_of_mem _ z))) hq'
    | true =>
      have hq' : ∀ q, q ∉ dom M' → P (.ref q) (M' ++ [(q, .lst acc)]) := hq
      have sp : Split (M' ++ [(D0, MO.lst acc)]) M' [(D0, MO.lst acc)] := List.Perm.refl _
      have sub : ∀ a ∈ um F (M' ++ [(D0, MO.lst acc)]), a ∈ um (D0 :: F) M' := fun a ha => by
        rw [um, dom_app] at ha
        simp only [List.mem_append, List.mem_singleton] at ha
        rcases ha with (z | z) | z
        · exact List.mem_append_left _ z
        · exact List.mem_append_right _ (by rw [z]; exact List.mem_cons_self)
        · exact List.mem_append_right _ (List.mem_cons_of_mem _ z)
      have mm : MSt X.K H' F (M' ++ [(D0, MO.lst acc)]) := by
        refine ⟨?_, fun q hq => ?_, fun b hb => ⟨?_, (mF.fr b hb).2⟩⟩
        · rw [dom_app]
          refine List.nodup_append.mpr ⟨mF.nd, by simp, fun a ha b hb => ?_⟩
          rw [List.mem_singleton.mp hb]
          rintro rfl
          exact nD' ha
        · rcases List.mem_append.mp hq with z | z
          · exact (m'.ok q z).anti sub
          · rw [List.mem_singleton.mp z]
            exact ⟨as, hD', dvs.anti sub⟩
        · rw [dom_app]
          intro z
          rcases List.mem_append.mp z with z | z
          · exact (mF.fr b hb).1 z
          · rw [List.mem_singleton.mp z] at hb; exact nF hb
      refine hP _ _ (M' ++ [(D0, MO.lst acc)]) H' ⟨(s1.trans s').keep, fun b hb => ?_⟩ mm (.ref D0) (hq' D0 nD')
      rw [dom_app] at hb
      rcases List.mem_append.mp hb with z | z
      · exact (s1.trans s').new b z
      · rw [List.mem_singleton.mp z]
        cases e : H D0 with
        | none => exact Or.inr rfl
        | some u =>
          by_cases hdm : D0 ∈ dom M
          · exact Or.inl hdm
          · have := s1.keep D0 u hdm e
            rw [hD] at this; cases this
  · right
    have hlt : i < xs.length := by omega
    obtain ⟨d, hd'⟩ : ∃ d, xs[i]? = some d := ⟨_, List.getElem?_eq_getElem hlt⟩
    obtain ⟨hgo, hy⟩ := ho i d hd'
    refine ⟨hgo, Wv (i + 1), fun H2 q => ⟨m - 1, by omega, by omega, q⟩, fun x H2 hyl => ?_⟩
    obtain ⟨s2, m2, dx⟩ := hy x H2 hyl
    have keepD : ∀ {Ha Hb : Hp} {Ma Mb : Mem} {as : List V}, Step Ha Ma Hb Mb → MSt X.K Ha (D0 :: F) Ma → Ha D0 = some (.lst as) → Hb D0 = some (.lst as) := fun st mm e => st.keep D0 _ (mm.fr D0 List.mem_cons_self).1 e
    have sl2 : SlOk X.K H2 (um (D0 :: F) M') (L2.wipe σ vs) (wipeA ρ vs) := by
      have z : SlOk X.K H1 (um F M1) σ ρ := (S.step s1 m1).sl
      have z2 : SlOk X.K H2 (um (D0 :: F) M') σ ρ := ⟨z.len, fun i d e => let ⟨v, e1, e2⟩ := z.at_ i d e; ⟨v, e1, e2.step2 (s'.trans s2) f2⟩⟩
      exact z2.wipe vs
    intro s_ H_ C_ cl_ fp_
    refine (hg s_ H_ C_ cl_ fp_).run (D0 :: F) x d _ M' _ (fun _ _ _ _ => False) _ H2 _ ⟨sl2, m2⟩ dx takes_no (hstep i d acc M' hd' hj) fun ρ3 M3 σ3 H3 s3 S3 oe q3 => ?_
    refine ⟨wipe_eq oe hw, fun s_ H_ C_ cl_ fp_ pins t J' => ?_⟩
    refine (ht s_ H_ C_ cl_ fp_).run (D0 :: F) ρ3 M3 _ noX (fun _ _ _ _ => False) σ3 H3 _ ⟨S3.sl, S3.ms⟩ takes_no q3 (fun bb M4 H4 s4 m4 q4 => ?_) lx_no pins t J'
    have dv4 := (((dvs.step s2).step s3).step s4)
    have hD4 := keepD s4 S3.ms (keepD s3 m2 (keepD s2 m' hD'))
    cases bb with
    | false =>
      show Wv (i + 1) H4
      exact ⟨acc, as, M4, ((s'.trans s2).trans s3).trans s4, m4, hD4, dv4, q4.2 rfl⟩
    | true =>
      rw [if_pos rfl]
      intro s_ H_ C_ cl_ fp_
      refine (he s_ H_ C_ cl_ fp_).run (D0 :: F) ρ3 M4 _ noX (fun _ _ _ _ => False) σ3 H4 _ ⟨S3.sl.step s4, m4⟩ takes_no (q4.1 rfl) (fun y yd M5 H5 s5 m5 dy q5 => ?_) lx_no
      have hD5 := keepD s5 m4 hD4
      refine ⟨as, hD5, by rw [dvs.length]; exact Nat.lt_of_lt_of_le q5.1 (by decide), acc ++ [yd], as ++ [y], M5, ?_, ?_, upd_same, ?_, q5.2⟩
      · refine ⟨fun b u hb e => ?_, fun b hb => ((((s'.trans s2).trans s3).trans s4).trans s5).new b hb⟩
        rw [upd_ne (ne_of_none e hD)]
        exact ((((s'.trans s2).trans s3).trans s4).trans s5).keep b u hb e
      · refine ⟨m5.nd, fun q hq => ?_, fun b hb => ⟨(m5.fr b hb).1, ?_⟩⟩
        · have nq : q.1 ≠ D0 := fun z => (m5.fr D0 List.mem_cons_self).1 (by rw [← z]; exact List.mem_map_of_mem (f := (·.1)) hq)
          exact MoOk.frz (List.mem_append_right _ List.mem_cons_self) nq (m5.ok q hq)
        · by_cases e : b = D0
          · rw [e]; exact ⟨_, upd_same⟩
          · rw [upd_ne e]; exact (m5.fr b hb).2
      · exact DVs.frz (List.mem_append_right _ List.mem_cons_self) ((dv4.step s5).append (DVs.one dy))
/-- [elt for tg in iter if ..] -/
theorem de_lc {elt tg iter : Expr} {ifs : List Expr} {scope : Scope} {own : List (Str × Nat)} {ws : List Nat} {pos : Pos} {ai : AI} {g : AG} {tt : AT} {te : AE} (b : Bool) (own_ : own = own) (hc : X.calm = true) (hN : X.N.Nodup) (ok : BlkOk X.N X.env.scope scope own)
    (hi : DenI X tg iter ai) (hg : Blk X scope fun X' => DenG X' tg ws g) (ht : Blk X scope fun X' => DenTs X' ifs tt) (he : Blk X scope fun X' => DenE X' elt te) (hw : ∀ i ∈ ws, i ∈ own.map (·.2) := by decide) (hs : ∀ x, foldedSetIterable iter X.env x = pure x := by intro _; rfl) :
    DenE X (.ListComp elt [⟨tg, iter, ifs, 0⟩] scope pos) (aLcL (own.map (·.2)) ai g tt te (if b = true then rMut else rFro)) :=
  ⟨fun F ρ M P EX W σ H Q S tk h hP hX => PE.ew (pe_lc (own := own) hc hN (pi_iw (X := X)) ok (fun s H C cl fp => ⟨fun pins s σ H v u Q I r h => h _ _ _ _ _ pins s u I r⟩) (fun s H C cl fp => ⟨fun pins s σ H Q I h => h _ _ _ _ _ pins s I⟩) (fun s H C cl fp => ⟨fun pins s σ H Q I h => h _ _ _ _ _ pins s I⟩) hs)
    (lc_ok b hi hg hw ht he S tk h hP hX)⟩
/-- y = [elt for tg in iter if ..] -/
theorem ds_setLc {elt tg iter : Expr} {ifs : List Expr} {scope : Scope} {own : List (Str × Nat)} {ws : List Nat} {pos spos py : Pos} {ai : AI} {g : AG} {tt : AT} {te : AE} (b : Bool) (i : Nat) {y : Str} (own_ : own = own) (hc : X.calm = true) (hN : X.N.Nodup) (ok : BlkOk X.N X.env.scope scope own)
    (hi : DenI X tg iter ai) (hg : Blk X scope fun X' => DenG X' tg ws g) (ht : Blk X scope fun X' => DenTs X' ifs tt) (he : Blk X scope fun X' => DenE X' elt te)
    (hsw : swapsWith (.ListComp elt [⟨tg, iter, ifs, 0⟩] scope pos) (some (.Name y py)) spos.line X.env = pure true) (hy : X.N[i]? = some y := by rfl) (hyl : X.env.scope.names.lookup y = some .local := by rfl) (hw : ∀ i ∈ ws, i ∈ own.map (·.2) := by decide) (hs : ∀ x, foldedSetIterable iter X.env x = pure x := by intro _; rfl) :
    DenS X (.Assign [.Name y py] (.ListComp elt [⟨tg, iter, ifs, 0⟩] scope pos) spos) (aAsg (aLcL (own.map (·.2)) ai g tt te (if b = true then rMut else rFro)) (gNameA i)) :=
  ⟨fun F ρ M k W σ H D S tk h L => fun pins s I => (ps_setLc (own := own) hc hN hy hyl hsw (pi_iw (X := X)) ok (fun s H C cl fp => ⟨fun pins s σ H v u Q I r h => h _ _ _ _ _ pins s u I r⟩) (fun s H C cl fp => ⟨fun pins s σ H Q I h => h _ _ _ _ _ pins s I⟩) (fun s H C cl fp => ⟨fun pins s σ H Q I h => h _ _ _ _ _ pins s I⟩) hs).run pins s σ H D I
    (lc_ok b hi hg hw ht he S tk h (fun v d M' H' s m dv q => L.nx _ M' _ H' s ⟨by rw [sS_set]; exact (S.sl.step s).set dv i, m⟩ q) (L.lx S))⟩
end
end Ab
set_option maxRecDepth 100000
set_option maxHeartbeats 2000000
/-! Ab7: operations over data. -/
namespace Ab
open PySem L2 PyProof.Rows

/-- what a new list, a new tuple of data is -/
theorem new_lst {X : Cx} {F : List Addr} {H : Hp} {M : Mem} {p : Addr} {xs : List V} {ds : List D} (m : MSt X.K H F M) (hp : H p = none) (dv : DVs X.K H (um F M) xs ds) : Step H M (upd H p (.lst xs)) M ∧ MSt X.K (upd H p (.lst xs)) F M ∧ DV X.K (upd H p (.lst xs)) (um F M) (.ref p) (.lst ds) :=
  ⟨step_new hp, mst_new m hp, .lst upd_same (m.notin hp) (dv.step (step_new hp))⟩
theorem new_tup {X : Cx} {F : List Addr} {H : Hp} {M : Mem} {p : Addr} {xs : List V} {ds : List D} (m : MSt X.K H F M) (hp : H p = none) (dv : DVs X.K H (um F M) xs ds) : Step H M (upd H p (.tup xs)) M ∧ MSt X.K (upd H p (.tup xs)) F M ∧ DV X.K (upd H p (.tup xs)) (um F M) (.ref p) (.tup ds) :=
  ⟨step_new hp, mst_new m hp, .tup (Or.inl upd_same) (m.notin hp) (dv.step (step_new hp))⟩
theorem new_dic {X : Cx} {F : List Addr} {H : Hp} {M : Mem} {p : Addr} {xs : List (Key × V)} {ds : List (Key × D)} (m : MSt X.K H F M) (hp : H p = none) (dv : DKs X.K H (um F M) xs ds) : Step H M (upd H p (.dK xs)) M ∧ MSt X.K (upd H p (.dK xs)) F M ∧ DV X.K (upd H p (.dK xs)) (um F M) (.ref p) (.dic ds) :=
  ⟨step_new hp, mst_new m hp, .dic upd_same (m.notin hp) (dv.step (step_new hp))⟩

/-- a tuple that is known to have no dict -/
theorem DV.tpn_inv {K : PySem.W.Frag} {H : Hp} {U : List Addr} {v : V} {ds : List D} (h : DV K H U v (.tpn ds)) : ∃ a xs, v = .ref a ∧ SqT K H a xs ∧ DVs K H U xs ds ∧ DV K H U v (.tup ds) := by
  cases h with
  | tpn h hd hn t => exact ⟨_, _, rfl, .inl (.inr ⟨_, h⟩), t, .tup (.inr ⟨_, h⟩) hn t⟩
  | tpnK h1 h2 h3 h t => exact ⟨_, _, rfl, h H, t, .tupK h t⟩
/-- a list that may be changed by its asker, or is data; exactly tracked -/
inductive LstA (M : Mem) : D → List D → Prop
  | fr {l : List D} : LstA M (.lst l) l
  | mu {a : Addr} {l : List D} : (a, MO.lst l) ∈ M → LstA M (.ref a) l
/-- a list that is read -/
inductive LstR (M : Mem) : D → List D → Prop
  | fr {l : List D} : LstR M (.lst l) l
  | sk {l : List D} : LstR M (.lsk l) l
  | mu {a : Addr} {l : List D} : (a, MO.lst l) ∈ M → LstR M (.ref a) l
/-- a list or tuple that is read -/
inductive SeqR (M : Mem) : D → List D → Prop
  | tup {l : List D} : SeqR M (.tup l) l
  | tpn {l : List D} : SeqR M (.tpn l) l
  | fr {l : List D} : SeqR M (.lst l) l
  | sk {l : List D} : SeqR M (.lsk l) l
  | mu {a : Addr} {l : List D} : (a, MO.lst l) ∈ M → SeqR M (.ref a) l
section
variable {K : PySem.W.Frag} {H : Hp} {F : List Addr} {M : Mem} {v : V} {d : D} {l : List D}
theorem LstA.inv (h : LstA M d l) (m : MSt K H F M) (dv : DV K H (um F M) v d) : ∃ a xs, v = .ref a ∧ H a = some (.lst xs) ∧ DVs K H (um F M) xs l := by
  cases h with
  | fr => cases dv with
    | lst h hn t => exact ⟨_, _, rfl, h, t⟩
  | mu hm =>
    cases dv
    obtain ⟨xs, e1, e2⟩ := m.ok _ hm
    exact ⟨_, xs, rfl, e1, e2⟩
theorem LstR.inv (h : LstR M d l) (m : MSt K H F M) (dv : DV K H (um F M) v d) : ∃ a xs, v = .ref a ∧ SqL K H a xs ∧ DVs K H (um F M) xs l := by
  cases h with
  | fr => cases dv with
    | lst h hn t => exact ⟨_, _, rfl, SqL.of h, t⟩
  | sk => cases dv with
    | lsk h hn t => exact ⟨_, _, rfl, .inl h, t⟩
    | lskK h t => exact ⟨_, _, rfl, h H, t⟩
  | mu hm =>
    cases dv
    obtain ⟨xs, e1, e2⟩ := m.ok _ hm
    exact ⟨_, xs, rfl, SqL.of e1, e2⟩
theorem SeqR.inv (h : SeqR M d l) (m : MSt K H F M) (dv : DV K H (um F M) v d) : ∃ a xs, v = .ref a ∧ (SqL K H a xs ∨ SqT K H a xs) ∧ DVs K H (um F M) xs l := by
  cases h with
  | tup =>
    obtain ⟨a, xs, e, h, t⟩ := dv.tup_inv
    exact ⟨a, xs, e, Or.inr h, t⟩
  | tpn =>
    obtain ⟨a, xs, e, h, t, _⟩ := dv.tpn_inv
    exact ⟨a, xs, e, Or.inr h, t⟩
  | fr =>
    obtain ⟨a, xs, e, h, t⟩ := LstR.inv .fr m dv
    exact ⟨a, xs, e, Or.inl h, t⟩
  | sk =>
    obtain ⟨a, xs, e, h, t⟩ := LstR.inv .sk m dv
    exact ⟨a, xs, e, Or.inl h, t⟩
  | mu hm =>
    obtain ⟨a, xs, e, h, t⟩ := LstR.inv (.mu hm) m dv
    exact ⟨a, xs, e, Or.inl h, t⟩
end

/-! ### two-place -/
inductive AddA : A2
  | int {i j : Int} {M : Mem} {P : AK} : P (.int (i + j)) M → AddA (.int i) (.int j) M P
  | str {a b : Str} {M : Mem} {P : AK} : a.length + b.length ≤ 100000 → P (.str (a ++ b)) M → AddA (.str a) (.str b) M P
  | tup {l r : List D} {M : Mem} {P : AK} : l.length + r.length ≤ 100000 → P (.tup (l ++ r)) M → AddA (.tup l) (.tup r) M P
  | lst {x y : D} {l r : List D} {M : Mem} {P : AK} : LstA M x l → LstA M y r → l.length + r.length ≤ 100000 → P (.lst (l ++ r)) M → AddA x y M P
  | ib {i : Int} {b : Bool} {M : Mem} {P : AK} : P (.int (i + if b = true then 1 else 0)) M → AddA (.int i) (.bl b) M P
inductive SubA : A2
  | int {i j : Int} {M : Mem} {P : AK} : P (.int (i - j)) M → SubA (.int i) (.int j) M P
inductive MulA : A2
  | intL {i j : Int} {M : Mem} {P : AK} : -(2 ^ 64) < i ∧ i < 2 ^ 64 → P (.int (i * j)) M → MulA (.int i) (.int j) M P
  | intR {i j : Int} {M : Mem} {P : AK} : -(2 ^ 64) < j ∧ j < 2 ^ 64 → P (.int (i * j)) M → MulA (.int i) (.int j) M P
  | intW {i j : Int} {M : Mem} {P : AK} : i.natAbs.log2 + j.natAbs.log2 < 1000000 → P (.int (i * j)) M → MulA (.int i) (.int j) M P
  | lst {x : D} {l : List D} {k : Int} {M : Mem} {P : AK} : LstA M x l → -(2 ^ 63) ≤ k ∧ k < 2 ^ 63 → l.length * k.toNat ≤ 100000 → P (.lst (List.replicate k.toNat l).flatten) M → MulA x (.int k) M P
inductive DivA : A2
  | int {i j : Int} {M : Mem} {P : AK} : 0 < j ∧ j < 1073741824 → P (.int (i / j)) M → DivA (.int i) (.int j) M P
  | intW {i j : Int} {M : Mem} {P : AK} : 0 < j ∧ j.natAbs.log2 < 9000 → P (.int (i / j)) M → DivA (.int i) (.int j) M P
inductive ModA : A2
  | int {i j : Int} {M : Mem} {P : AK} : 0 < j → P (.int (i % j)) M → ModA (.int i) (.int j) M P
inductive PowA : A2
  | int {i j : Int} {M : Mem} {P : AK} : 0 ≤ j ∧ j ≤ 1000000 ∧ i.natAbs < 2 ^ 64 → P (.int (i ^ j.toNat)) M → PowA (.int i) (.int j) M P
inductive ShlA : A2
  | int {i j : Int} {M : Mem} {P : AK} : 0 ≤ j ∧ j ≤ 1000000 ∧ i.natAbs < 2 ^ 64 → P (.int (i * 2 ^ j.toNat)) M → ShlA (.int i) (.int j) M P
inductive ShrA : A2
  | int {i j : Int} {M : Mem} {P : AK} : 0 ≤ j → P (.int (i / 2 ^ j.toNat)) M → ShrA (.int i) (.int j) M P
inductive LtA : A2
  | int {i j : Int} {M : Mem} {P : AK} : P (.bl (decide (i < j))) M → LtA (.int i) (.int j) M P
  | str {a b : Str} {M : Mem} {P : AK} : P (.bl (decide (a.cps.toList < b.cps.toList))) M → LtA (.str a) (.str b) M P
inductive LeA : A2
  | int {i j : Int} {M : Mem} {P : AK} : P (.bl (decide (i ≤ j))) M → LeA (.int i) (.int j) M P
  | str {a b : Str} {M : Mem} {P : AK} : P (.bl (!decide (b.cps.toList < a.cps.toList))) M → LeA (.str a) (.str b) M P
inductive GtA : A2
  | int {i j : Int} {M : Mem} {P : AK} : P (.bl (decide (j < i))) M → GtA (.int i) (.int j) M P
inductive GeA : A2
  | int {i j : Int} {M : Mem} {P : AK} : P (.bl (decide (j ≤ i))) M → GeA (.int i) (.int j) M P
def isNon : D → Bool
  | .non => true
  | _ => false
/-- data that == tells apart: flat, tuples and lists of such -/
inductive IsPy : D → PyData → Prop
  | non : IsPy .non .none
  | bl (b : Bool) : IsPy (.bl b) (.bool b)
  | int (i : Int) : IsPy (.int i) (.int i)
  | str (s : Str) : IsPy (.str s) (.str s)
  | tup {l : List D} {ps : List PyData} : Paired IsPy l ps → IsPy (.tup l) (.tuple ps)
  | lst {l : List D} {ps : List PyData} : Paired IsPy l ps → IsPy (.lst l) (.list ps)
  | lsk {l : List D} {ps : List PyData} : Paired IsPy l ps → IsPy (.lsk l) (.list ps)
inductive EqA : A2
  | int {i j : Int} {M : Mem} {P : AK} : P (.bl (decide (i = j))) M → EqA (.int i) (.int j) M P
  | bl {i j : Bool} {M : Mem} {P : AK} : P (.bl (decide (i = j))) M → EqA (.bl i) (.bl j) M P
  | str {i j : Str} {M : Mem} {P : AK} : P (.bl (decide (i = j))) M → EqA (.str i) (.str j) M P
  | isn {i : Int} {s : Str} {M : Mem} {P : AK} : P (.bl false) M → EqA (.int i) (.str s) M P
  | sin {i : Int} {s : Str} {M : Mem} {P : AK} : P (.bl false) M → EqA (.str s) (.int i) M P
  | bn {b : Bool} {M : Mem} {P : AK} : P (.bl false) M → EqA (.bl b) .non M P
  | nb {b : Bool} {M : Mem} {P : AK} : P (.bl false) M → EqA .non (.bl b) M P
  | nn {M : Mem} {P : AK} : P (.bl true) M → EqA .non .non M P
  | py {x y : D} {p q : PyData} {M : Mem} {P : AK} : IsPy x p → IsPy y q → SeqAt.shaped p = true → SeqAt.shaped q = true → P (.bl (PyData.eqv p q)) M → EqA x y M P
def NeA : A2 := fun x y M P => EqA x y M (fun d M' => ∃ b, d = .bl b ∧ P (.bl (!b)) M')
inductive InA : A2
  | sign {c : Nat} {z : Str} {M : Mem} {P : AK} : P (.bl (decide (c ∈ z.cps.toList))) M → InA (.str ⟨#[c]⟩) (.str z) M P
  | seq {x y : D} {l : List D} {vx : V} {vs : List V} {M : Mem} {P : AK} : SeqR M y l → flatD x = some vx → Paired (fun d v => flatD d = some v ∧ flatV v = true) l vs → flatV vx = true → P (.bl (inV vx vs)) M → InA x y M P
def NotInA : A2 := fun x y M P => InA x y M (fun d M' => ∃ b, d = .bl b ∧ P (.bl (!b)) M')
inductive IsA : A2
  | non {x : D} {M : Mem} {P : AK} : P (.bl (isNon x)) M → IsA x .non M P
inductive IsNotA : A2
  | non {x : D} {M : Mem} {P : AK} : P (.bl (!isNon x)) M → IsNotA x .non M P
section
variable {X : Cx}
theorem ok_add : OkA2 X (binaryOp .Add) AddA := fun F x y v w M P H Q m dv dw h hP => by
  cases h with
  | int q =>
    cases dv; cases dw
    exact ⟨_, op_add, _, _, rfl, rfl, hP _ _ M H (Step.refl H M) m (.int _) q⟩
  | str hz q =>
    cases dv; cases dw
    exact ⟨_, op_add_str, _, _, rfl, rfl, sz hz, hP _ _ M H (Step.refl H M) m (.str _) q⟩
  | tup hz q =>
    obtain ⟨a, xs, rfl, h1, t1⟩ := dv.tup_inv
    obtain ⟨b, ys, rfl, h2, t2⟩ := dw.tup_inv
    refine ⟨_, op_catA, a, b, xs, ys, rfl, rfl, h1, h2, by rw [t1.length, t2.length]; exact sz hz, fun e => ?_, fun e1 e2 => ?_, fun e1 e2 p hp => ?_⟩
    · subst e
      cases t1
      exact hP _ _ M H (Step.refl H M) m dw q
    · subst e2
      cases t2
      exact hP _ _ M H (Step.refl H M) m dv (by rw [List.append_nil] at q; exact q)
    · obtain ⟨s1, m1, d1⟩ := new_tup m hp (t1.append t2)
      exact hP _ _ M _ s1 m1 d1 q
  | lst h1 h2 hz q =>
    obtain ⟨a, xs, rfl, e1, t1⟩ := h1.inv m dv
    obtain ⟨b, ys, rfl, e2, t2⟩ := h2.inv m dw
    refine ⟨_, op_cat, a, b, xs, ys, rfl, rfl, e1, e2, by rw [t1.length, t2.length]; exact sz hz, fun p hp => ?_⟩
    obtain ⟨s1, m1, d1⟩ := new_lst m hp (t1.append t2)
    exact hP _ _ M _ s1 m1 d1 q
  | @ib i b M P q =>
    cases dv; cases dw
    have e : b2i b = if b = true then 1 else 0 := by cases b <;> rfl
    exact ⟨_, op_add_ib, _, _, rfl, rfl, by rw [e]; exact hP _ _ M H (Step.refl H M) m (.int _) q⟩
theorem ok_sub : OkA2 X (binaryOp .Sub) SubA := fun F x y v w M P H Q m dv dw h hP => by
  cases h with
  | int q =>
    cases dv; cases dw
    exact ⟨_, op_sub, _, _, rfl, rfl, hP _ _ M H (Step.refl H M) m (.int _) q⟩
theorem ok_mul : OkA2 X (binaryOp .Mult) MulA := fun F x y v w M P H Q m dv dw h hP => by
  cases h with
  | intL hc q =>
    cases dv; cases dw
    exact ⟨_, op_mul, _, _, rfl, rfl, Or.inl hc, hP _ _ M H (Step.refl H M) m (.int _) q⟩
  | intR hc q =>
    cases dv; cases dw
    exact ⟨_, op_mul, _, _, rfl, rfl, Or.inr hc, hP _ _ M H (Step.refl H M) m (.int _) q⟩
  | intW hc q =>
    cases dv; cases dw
    exact ⟨_, op_mulW, _, _, rfl, rfl, hc, hP _ _ M H (Step.refl H M) m (.int _) q⟩
  | lst h1 hk hz q =>
    obtain ⟨a, xs, rfl, e1, t1⟩ := h1.inv m dv
    cases dw
    refine ⟨_, op_rep, a, _, xs, rfl, rfl, e1, hk.1, hk.2, by rw [t1.length]; exact sz hz, fun p hp => ?_⟩
    have rep : ∀ n : Nat, DVs X.K H (um F M) (List.replicate n xs).flatten (List.replicate n _).flatten := fun n => by
      induction n with
      | zero => exact .nil
      | succ n ih => rw [List.replicate_succ, List.replicate_succ, List.flatten_cons, List.flatten_cons]; exact t1.append ih
    obtain ⟨s1, m1, d1⟩ := new_lst m hp (rep _)
    exact hP _ _ M _ s1 m1 d1 q
theorem ok_div : OkA2 X (binaryOp .FloorDiv) DivA := fun F x y v w M P H Q m dv dw h hP => by
  cases h with
  | int hc q =>
    cases dv; cases dw
    exact ⟨_, op_fdiv, _, _, rfl, rfl, hc, hP _ _ M H (Step.refl H M) m (.int _) q⟩
  | intW hc q =>
    cases dv; cases dw
    exact ⟨_, op_fdivW, _, _, rfl, rfl, hc, hP _ _ M H (Step.refl H M) m (.int _) q⟩
theorem ok_mod : OkA2 X (binaryOp .Mod) ModA := fun F x y v w M P H Q m dv dw h hP => by
  cases h with
  | int hc q =>
    cases dv; cases dw
    exact ⟨_, op_mod, _, _, rfl, rfl, hc, hP _ _ M H (Step.refl H M) m (.int _) q⟩
theorem ok_pow : OkA2 X (binaryOp .Pow) PowA := fun F x y v w M P H Q m dv dw h hP => by
  cases h with
  | int hc q =>
    cases dv; cases dw
    exact ⟨_, op_pow, _, _, rfl, rfl, hc, hP _ _ M H (Step.refl H M) m (.int _) q⟩
theorem ok_shl : OkA2 X (binaryOp .LShift) ShlA := fun F x y v w M P H Q m dv dw h hP => by
  cases h with
  | int hc q =>
    cases dv; cases dw
    exact ⟨_, op_shl, _, _, rfl, rfl, hc, hP _ _ M H (Step.refl H M) m (.int _) q⟩
theorem ok_shr : OkA2 X (binaryOp .RShift) ShrA := fun F x y v w M P H Q m dv dw h hP => by
  cases h with
  | int hc q =>
    cases dv; cases dw
    exact ⟨_, op_shr, _, _, rfl, rfl, hc, hP _ _ M H (Step.refl H M) m (.int _) q⟩
theorem ok_lt : OkA2 X (compareOp .Lt) LtA := fun F x y v w M P H Q m dv dw h hP => by
  cases h with
  | int q =>
    cases dv; cases dw
    exact ⟨_, op_lt, _, _, rfl, rfl, hP _ _ M H (Step.refl H M) m (.bl _) q⟩
  | str q =>
    cases dv; cases dw
    exact ⟨_, op_lt_str, _, _, rfl, rfl, hP _ _ M H (Step.refl H M) m (.bl _) q⟩
theorem ok_le : OkA2 X (compareOp .LtE) LeA := fun F x y v w M P H Q m dv dw h hP => by
  cases h with
  | int q =>
    cases dv; cases dw
    exact ⟨_, op_le, _, _, rfl, rfl, hP _ _ M H (Step.refl H M) m (.bl _) q⟩
  | str q =>
    cases dv; cases dw
    exact ⟨_, op_le_str, _, _, rfl, rfl, hP _ _ M H (Step.refl H M) m (.bl _) q⟩
theorem ok_gt : OkA2 X (compareOp .Gt) GtA := fun F x y v w M P H Q m dv dw h hP => by
  cases h with
  | int q =>
    cases dv; cases dw
    exact ⟨_, op_gt, _, _, rfl, rfl, hP _ _ M H (Step.refl H M) m (.bl _) q⟩
theorem ok_ge : OkA2 X (compareOp .GtE) GeA := fun F x y v w M P H Q m dv dw h hP => by
  cases h with
  | int q =>
    cases dv; cases dw
    exact ⟨_, op_ge, _, _, rfl, rfl, hP _ _ M H (Step.refl H M) m (.bl _) q⟩
mutual
theorem IsPy.dp {K : PySem.W.Frag} {H : Hp} {U : List Addr} : ∀ {d : D} {p : PyData} {v : V}, IsPy d p → DV K H U v d → Dp K H v p
  | _, _, _, .non, .non => .non
  | _, _, _, .bl b, .bl _ => .bl b
  | _, _, _, .int b, .int _ => .int b
  | _, _, _, .str b, .str _ => .str b
  | _, _, _, .tup h, .tup e hn t => .tup (.inl e) (IsPy.dps h t)
  | _, _, _, .tup h, .tupK e t => .tup (e H) (IsPy.dps h t)
  | _, _, _, .lst h, .lst e hn t => .lst (SqL.of e) (IsPy.dps h t)
  | _, _, _, .lsk h, .lsk e hn t => .lst (.inl e) (IsPy.dps h t)
  | _, _, _, .lsk h, .lskK e t => .lst (e H) (IsPy.dps h t)
theorem IsPy.dps {K : PySem.W.Frag} {H : Hp} {U : List Addr} : ∀ {l : List D} {ps : List PyData} {vs : List V}, Paired IsPy l ps → DVs K H U vs l → DpAll K H vs ps
  | _, _, _, .nil, .nil => .nil
  | _, _, _, .cons a b, .cons c d => .cons (IsPy.dp a c) (IsPy.dps b d)
end
theorem ok_eq (hu : X.A.units + 64 < cLine) : OkA2 X (compareOp .Eq) EqA := fun F x y v w M P H Q m dv dw h hP => by
  cases h with
  | @int i j _ _ q =>
    cases dv; cases dw
    exact ⟨_, op_eq, rfl, hP _ _ M H (Step.refl H M) m (.bl _) (by simpa using q)⟩
  | @bl i j _ _ q =>
    cases dv; cases dw
    exact ⟨_, op_eq, rfl, hP _ _ M H (Step.refl H M) m (.bl _) (by simpa using q)⟩
  | @str i j _ _ q =>
    cases dv; cases dw
    exact ⟨_, op_eq, rfl, hP _ _ M H (Step.refl H M) m (.bl _) (by simpa using q)⟩
  | isn q =>
    cases dv; cases dw
    exact ⟨_, op_eq, rfl, hP _ _ M H (Step.refl H M) m (.bl _) (by simpa using q)⟩
  | sin q =>
    cases dv; cases dw
    exact ⟨_, op_eq, rfl, hP _ _ M H (Step.refl H M) m (.bl _) (by simpa using q)⟩
  | bn q =>
    cases dv; cases dw
    exact ⟨_, op_eq, rfl, hP _ _ M H (Step.refl H M) m (.bl _) (by simpa using q)⟩
  | nb q =>
    cases dv; cases dw
    exact ⟨_, op_eq, rfl, hP _ _ M H (Step.refl H M) m (.bl _) (by simpa using q)⟩
  | nn q =>
    cases dv; cases dw
    exact ⟨_, op_eq, rfl, hP _ _ M H (Step.refl H M) m (.bl _) (by simpa using q)⟩
  | py h1 h2 s1 s2 q => exact ⟨_, op_eqD hu, _, _, h1.dp dv, h2.dp dw, s1, s2, hP _ _ M H (Step.refl H M) m (.bl _) q⟩
theorem ok_ne (hu : X.A.units + 64 < cLine) : OkA2 X (compareOp .NotEq) NeA := fun F x y v w M P H Q m dv dw h hP => by
  have fin : ∀ {b : Bool}, (∃ b', D.bl b = .bl b' ∧ P (.bl (!b')) M) → P (.bl (!b)) M := fun {b} h => by
    obtain ⟨b', e, q⟩ := h
    cases e; exact q
  cases h with
  | @int i j _ _ q =>
    cases dv; cases dw
    exact ⟨_, op_ne, rfl, hP _ _ M H (Step.refl H M) m (.bl _) (by simpa using fin q)⟩
  | @bl i j _ _ q =>
    cases dv; cases dw
    exact ⟨_, op_ne, rfl, hP _ _ M H (Step.refl H M) m (.bl _) (by simpa using fin q)⟩
  | @str i j _ _ q =>
    cases dv; cases dw
    exact ⟨_, op_ne, rfl, hP _ _ M H (Step.refl H M) m (.bl _) (by simpa using fin q)⟩
  | isn q =>
    cases dv; cases dw
    exact ⟨_, op_ne, rfl, hP _ _ M H (Step.refl H M) m (.bl _) (by simpa using fin q)⟩
  | sin q =>
    cases dv; cases dw
    exact ⟨_, op_ne, rfl, hP _ _ M H (Step.refl H M) m (.bl _) (by simpa using fin q)⟩
  | bn q =>
    cases dv; cases dw
    exact ⟨_, op_ne, rfl, hP _ _ M H (Step.refl H M) m (.bl _) (by simpa using fin q)⟩
  | nb q =>
    cases dv; cases dw
    exact ⟨_, op_ne, rfl, hP _ _ M H (Step.refl H M) m (.bl _) (by simpa using fin q)⟩
  | nn q =>
    cases dv; cases dw
    exact ⟨_, op_ne, rfl, hP _ _ M H (Step.refl H M) m (.bl _) (by simpa using fin q)⟩
  | py h1 h2 s1 s2 q => exact ⟨_, op_neD hu, _, _, h1.dp dv, h2.dp dw, s1, s2, hP _ _ M H (Step.refl H M) m (.bl _) (fin q)⟩
theorem flat_inv {K : PySem.W.Frag} {H : Hp} {U : List Addr} {d : D} {v w : V} (h : flatD d = some w) (dv : DV K H U v d) : v = w := by
  cases d <;> simp [flatD] at h <;> subst h <;> cases dv <;> rfl
theorem flats_inv {K : PySem.W.Frag} {H : Hp} {U : List Addr} : ∀ {l : List D} {vs ws : List V}, Paired (fun d v => flatD d = some v ∧ flatV v = true) l ws → DVs K H U vs l → vs = ws ∧ ws.all flatV = true
  | _, _, _, .nil, .nil => ⟨rfl, rfl⟩
  | _, _, _, .cons a b, .cons c d => by
    obtain ⟨e1, e2⟩ := flats_inv b d
    rw [flat_inv a.1 c, e1]
    exact ⟨rfl, by rw [List.all_cons, a.2, e2]; rfl⟩
theorem ok_in : OkA2 X (compareOp .In) InA := fun F x y v w M P H Q m dv dw h hP => by
  cases h with
  | sign q =>
    cases dv; cases dw
    exact ⟨_, op_in_sign, _, _, rfl, rfl, hP _ _ M H (Step.refl H M) m (.bl _) q⟩
  | seq hs hx hl hf q =>
    obtain ⟨a, xs, rfl, e, t⟩ := hs.inv m dw
    obtain ⟨rfl, e2⟩ := flats_inv hl t
    have ev := flat_inv hx dv
    subst ev
    exact ⟨_, op_in_seq, a, xs, rfl, e, hf, e2, by rw [if_neg Bool.false_ne_true]; exact hP _ _ M H (Step.refl H M) m (.bl _) q⟩
theorem ok_notin : OkA2 X (compareOp .NotIn) NotInA := fun F x y v w M P H Q m dv dw h hP => by
  have fin : ∀ {b : Bool}, (∃ b', D.bl b = .bl b' ∧ P (.bl (!b')) M) → P (.bl (!b)) M := fun {b} h => by
    obtain ⟨b', e, q⟩ := h
    cases e; exact q
  cases h with
  | sign q =>
    cases dv; cases dw
    exact ⟨_, op_notIn_sign, _, _, rfl, rfl, hP _ _ M H (Step.refl H M) m (.bl _) (fin q)⟩
  | seq hs hx hl hf q =>
    obtain ⟨a, xs, rfl, e, t⟩ := hs.inv m dw
    obtain ⟨rfl, e2⟩ := flats_inv hl t
    have ev := flat_inv hx dv
    subst ev
    exact ⟨_, op_notIn_seq, a, xs, rfl, e, hf, e2, by rw [if_pos rfl]; exact hP _ _ M H (Step.refl H M) m (.bl _) (fin q)⟩
theorem isnon {K : PySem.W.Frag} {H : Hp} {U : List Addr} {d : D} {v : V} (dv : DV K H U v d) : decide (v = .non) = isNon d := by
  cases dv <;> rfl
theorem ok_is : OkA2 X (compareOp .Is) IsA := fun F x y v w M P H Q m dv dw h hP => by
  cases h with
  | non q => exact ⟨_, op_isN, dw.non', hP _ _ M H (Step.refl H M) m (.bl _) (by rw [isnon dv]; exact q)⟩
theorem ok_isnot : OkA2 X (compareOp .IsNot) IsNotA := fun F x y v w M P H Q m dv dw h hP => by
  cases h with
  | non q => exact ⟨_, op_notN, dw.non', hP _ _ M H (Step.refl H M) m (.bl _) (by rw [isnon dv]; exact q)⟩
end
end Ab
set_option maxRecDepth 100000
set_option maxHeartbeats 2000000
/-! Ab8: items, slices, built-ins, methods of lists and texts. -/
namespace Ab
open PySem L2 PyProof.Rows

section
variable {X : Cx} {a b e o : Expr} {ta tb te : AE} {pos : Pos}
theorem de_tup {es : List Expr} {t : AA} {j : Nat} (h : DenA X es t) : DenE X (.Tuple es j pos) (aTup t) :=
  ⟨fun F ρ M P EX W σ H Q S tk hq hP hX => (pe_tup (pa_gw (X := X))).ew (h.run F ρ M _ EX W σ H _ S tk hq (fun vs ds M1 H1 s1 m1 dv q => ⟨by rw [dv.length]; exact sz q.1, fun p hp => by
    obtain ⟨s2, m2, d2⟩ := new_tup m1 hp dv
    exact hP _ _ M1 _ (s1.trans s2) m2 d2 q.2⟩) hX)⟩
theorem de_lst {es : List Expr} {t : AA} (h : DenA X es t) : DenE X (.List es pos) (aLst t) :=
  ⟨fun F ρ M P EX W σ H Q S tk hq hP hX => (pe_lst (pa_gw (X := X))).ew (h.run F ρ M _ EX W σ H _ S tk hq (fun vs ds M1 H1 s1 m1 dv q => ⟨by rw [dv.length]; exact sz q.1, fun p hp => by
    obtain ⟨s2, m2, d2⟩ := new_lst m1 hp dv
    exact hP _ _ M1 _ (s1.trans s2) m2 d2 q.2⟩) hX)⟩
theorem new_mut {F : List Addr} {H : Hp} {M : Mem} {p : Addr} {xs : List V} {ds : List D} (m : MSt X.K H F M) (hp : H p = none) (dv : DVs X.K H (um F M) xs ds) : Step H M (upd H p (.lst xs)) (M ++ [(p, .lst ds)]) ∧ MSt X.K (upd H p (.lst xs)) F (M ++ [(p, .lst ds)]) ∧ p ∉ dom M :=
  have s1 : Step H M (upd H p (.lst xs)) (M ++ [(p, .lst ds)]) := step_newM hp
  ⟨s1, mst_newM m hp ⟨xs, upd_same, dv.step s1⟩, fun z => m.notin hp (List.mem_append_left _ z)⟩
theorem de_lstM {es : List Expr} {t : AA} (h : DenA X es t) : DenE X (.List es pos) (aLstM t) :=
  ⟨fun F ρ M P EX W σ H Q S tk hq hP hX => (pe_lst (pa_gw (X := X))).ew (h.run F ρ M _ EX W σ H _ S tk hq (fun vs ds M1 H1 s1 m1 dv q => ⟨by rw [dv.length]; exact sz q.1, fun p hp => by
    obtain ⟨s2, m2, n2⟩ := new_mut m1 hp dv
    exact hP _ _ _ _ (s1.trans s2) m2 (.ref _) (q.2 p n2)⟩) hX)⟩
theorem de_gint {x : Str} {i : Int} (h : ∃ t, X.mg x = some (.int i t)) (hg : Gl X x := by rfl) (hd : (x == ("__debug__" : Str)) = false := by decide) : DenE X (.Name x pos) (aC (.int i)) := by
  obtain ⟨t, h⟩ := h
  exact de_glob (v := .int i) h ⟨t, rfl⟩ hg rfl hd
theorem de_gstr {x : Str} {i : Str} (h : ∃ t, X.mg x = some (.str i t)) (hg : Gl X x := by rfl) (hd : (x == ("__debug__" : Str)) = false := by decide) : DenE X (.Name x pos) (aC (.str i)) := by
  obtain ⟨t, h⟩ := h
  exact de_glob (v := .str i) h ⟨t, rfl⟩ hg rfl hd
/-! ### items -/
inductive IxA : A2
  | seq {x : D} {l : List D} {i : Int} {d : D} {M : Mem} {P : AK} : SeqR M x l → atI l i = some d → P d M → IxA x (.int i) M P
  | str {z : Str} {i : Int} {c : Nat} {M : Mem} {P : AK} : z.length ≤ 100000 → atI z.cps.toList i = some c → P (.str ⟨#[c]⟩) M → IxA (.str z) (.int i) M P
theorem DVs.atI {K : PySem.W.Frag} {H : Hp} {U : List Addr} {vs : List V} {ds : List D} {i : Int} {d : D} (h : DVs K H U vs ds) (e : L2.atI ds i = some d) : ∃ v, L2.atI vs i = some v ∧ DV K H U v d := by
  unfold L2.atI at e ⊢
  rw [h.length]
  cases q : ixN ds.length i with
  | none => rw [q] at e; cases e
  | some j =>
    rw [q] at e
    exact h.get e
def anyIx (X : Cx) : R2 := fun x y H Q => ∃ rr, IxR X rr ∧ rr x y H Q
theorem ix_any : IxR X (anyIx X) := fun value slice pins s σ H x y v u Q I r1 r2 ⟨_, h1, h2⟩ hs => h1 value slice pins s σ H x y v u Q I r1 r2 h2 hs
theorem de_ix (ha : DenE X a ta) (hb : DenE X b tb) (hs : PlainIx b := by exact fun _ _ => rfl) : DenE X (.Subscript a b pos) (aBin IxA ta tb) :=
  ⟨fun F ρ M P EX W σ H Q S tk h hP hX => (pe_ix ix_any (pe_ew (X := X)) (pe_ew (X := X)) hs).ew (ha.run F ρ M _ EX W σ H _ S tk h (fun v x M1 H1 s1 m1 dv h1 =>
    hb.run F ρ M1 _ EX W σ H1 _ (S.step s1 m1) tk h1 (fun w y M2 H2 s2 m2 dw h2 => by
      have go : ∀ z d, DV X.K H2 (um F M2) z d → P d M2 → Q z H2 := fun z d dz p => hP z d M2 H2 (s1.trans s2) m2 dz p
      have dv2 := dv.step s2
      cases h2 with
      | seq hq e q =>
        obtain ⟨p, xs, rfl, hh, t⟩ := hq.inv m2 dv2
        cases dw
        obtain ⟨z, e1, e2⟩ := t.atI e
        rcases hh with hh | hh
        · exact ⟨_, ix_list, p, xs, _, z, rfl, rfl, hh, e1, go _ _ e2 q⟩
        · exact ⟨_, ix_tup, p, xs, _, z, rfl, rfl, hh, e1, go _ _ e2 q⟩
      | str hz e q =>
        cases dv2; cases dw
        exact ⟨_, ix_str, _, _, _, rfl, rfl, sz hz, e, go _ _ (.str _) q⟩) (hX.step s1)) hX)⟩

/-! ### slices -/
abbrev AO := Rho → Mem → (Option Int → Mem → Prop) → XKA → Prop
def OW (X : Cx) (o : Option Expr) : TO := fun σ H Q => ∀ (pins : List (Addr × Obj)) (s : Shared), Inv X pins σ H s → wpAny (model X.prog X.w) X.A (evalPart o X.env) (fun u s' => ∃ o H', Inv X pins σ H' s' ∧ IsPart u o ∧ Q o H') X.xe s
theorem po_ow {o : Option Expr} : PO X o (OW X o) := ⟨fun pins s σ H Q I h => h pins s I⟩
structure DenO (X : Cx) (o : Option Expr) (t : AO) : Prop where
  run : ∀ (F : List Addr) (ρ : Rho) (M : Mem) (P : Option Int → Mem → Prop) (EX : XKA) (W : WX) (σ : L2.St) (H : Hp) (Q : Option Int → Hp → Prop), Sta X H F M σ ρ → Takes X W → t ρ M P EX →
    (∀ i M' H', Step H M H' M' → MSt X.K H' F M' → P i M' → Q i H') → LX X H F M EX (fun cls d H' => W cls d σ H') → OW X o σ H Q
def aNoPart : AO := fun _ M P _ => P none M
def aPart (t : AE) : AO := fun ρ M P EX => t ρ M (fun d M1 => ∃ i, d = .int i ∧ P (some i) M1) EX
theorem do_none : DenO X none aNoPart := ⟨fun F ρ M P EX W σ H Q S tk h hP hX => fun pins s I => po_none.run pins s σ H Q I (hP none M H (Step.refl H M) S.ms h)⟩
theorem do_some (he : DenE X e te) : DenO X (some e) (aPart te) := ⟨fun F ρ M P EX W σ H Q S tk h hP hX => fun pins s I => (po_some (pe_ew (X := X))).run pins s σ H Q I
  (he.run F ρ M _ EX W σ H _ S tk h (fun v d M1 H1 s1 m1 dv q => by
    obtain ⟨i, rfl, q⟩ := q
    exact ⟨i, dv.int', hP _ M1 H1 s1 m1 q⟩) hX)⟩
def cutL {α : Type} (xs : List α) (lo hi : Option Int) : List α := (xs.drop (HT.sIx xs.length 0 lo)).take (HT.sIx xs.length xs.length hi - HT.sIx xs.length 0 lo)
theorem DVs.cut {K : PySem.W.Frag} {H : Hp} {U : List Addr} {vs : List V} {ds : List D} {lo hi : Option Int} (h : DVs K H U vs ds) : DVs K H U (cutV vs lo hi) (cutL ds lo hi) := by
  unfold cutV cutL
  rw [h.length]
  exact (h.drop _).take _
theorem cutL_all {α : Type} {xs : List α} {lo hi : Option Int} (h1 : HT.sIx xs.length 0 lo = 0) (h2 : HT.sIx xs.length xs.length hi = xs.length) : cutL xs lo hi = xs := by
  unfold cutL
  rw [h1, h2]
  simp
inductive SlA : D → Option Int → Option Int → Mem → AK → Prop
  | str {z : Str} {lo hi : Option Int} {M : Mem} {P : AK} : z.length ≤ 100000 → P (.str (cutS z lo hi)) M → SlA (.str z) lo hi M P
  | tup {l : List D} {lo hi : Option Int} {M : Mem} {P : AK} : P (.tup (cutL l lo hi)) M → SlA (.tup l) lo hi M P
  | lst {x : D} {l : List D} {lo hi : Option Int} {M : Mem} {P : AK} : LstR M x l → P (.lst (cutL l lo hi)) M → SlA x lo hi M P
def aSl (te : AE) (tl th : AO) : AE := fun ρ M P EX => te ρ M (fun x M1 => tl ρ M1 (fun lo M2 => th ρ M2 (fun hi M3 => SlA x lo hi M3 P) EX) EX) EX
def anySl (X : Cx) : V → Option Int → Option Int → Hp → VK → Prop := fun x lo hi H Q => ∃ rr, SlR X rr ∧ rr x lo hi H Q
theorem sl_any : SlR X (anySl X) := fun pins s σ H x v vl vu lo hi sl Q I rx hs pl pu ⟨_, h1, h2⟩ => h1 pins s σ H x v vl vu lo hi sl Q I rx hs pl pu h2
theorem de_sl {lo hi : Option Expr} {tl th : AO} {p2 : Pos} (he : DenE X e te) (hl : DenO X lo tl) (hh : DenO X hi th) : DenE X (.Subscript e (.Slice lo hi none p2) pos) (aSl te tl th) :=
  ⟨fun F ρ M P EX W σ H Q S tk h hP hX => (pe_slice sl_any (pe_ew (X := X)) (po_ow (X := X)) (po_ow (X := X))).ew (he.run F ρ M _ EX W σ H _ S tk h (fun v x M1 H1 s1 m1 dv h1 =>
    hl.run F ρ M1 _ EX W σ H1 _ (S.step s1 m1) tk h1 (fun lo M2 H2 s2 m2 h2 => hh.run F ρ M2 _ EX W σ H2 _ (S.step (s1.trans s2) m2) tk h2 (fun hi M3 H3 s3 m3 h3 => by
      have dv3 := (dv.step s2).step s3
      have s13 := (s1.trans s2).trans s3
      cases h3 with
      | str hz q =>
        cases dv3
        exact ⟨_, sl_str, _, rfl, sz hz, hP _ _ M3 H3 s13 m3 (.str _) q⟩
      | tup q =>
        obtain ⟨p, xs, rfl, hs, t⟩ := dv3.tup_inv
        refine ⟨_, sl_tupA, p, xs, rfl, hs, fun e => ?_, fun e p' hp => ?_⟩
        · rw [t.length] at e
          exact hP _ _ M3 H3 s13 m3 dv3 (by rw [cutL_all e.1 e.2] at q; exact q)
        · obtain ⟨s4, m4, d4⟩ := new_tup m3 hp (t.cut (lo := lo) (hi := hi))
          exact hP _ _ M3 _ (s13.trans s4) m4 d4 q
      | lst hq q =>
        obtain ⟨p, xs, rfl, hs, t⟩ := hq.inv m3 dv3
        refine ⟨_, sl_list, p, xs, rfl, hs, fun p' hp => ?_⟩
        obtain ⟨s4, m4, d4⟩ := new_lst m3 hp (t.cut (lo := lo) (hi := hi))
        exact hP _ _ M3 _ (s13.trans s4) m4 d4 q) (hX.step (s1.trans s2))) (hX.step s1)) hX)⟩

/-! ### built-ins -/
abbrev AC := List D → Mem → AK → Prop
def OkC (X : Cx) (f : Value) (r : AC) : Prop := ∀ (F : List Addr) (ds : List D) (vs : List V) (M : Mem) (P : AK) (H : Hp) (Q : VK), MSt X.K H F M → DVs X.K H (um F M) vs ds → r ds M P →
  (∀ z d M' H', Step H M H' M' → MSt X.K H' F M' → DV X.K H' (um F M') z d → P d M' → Q z H') → ∃ rr, CallR X f rr ∧ rr vs H Q
def anyC (X : Cx) (f : Value) : List V → Hp → VK → Prop := fun xs H Q => ∃ rr, CallR X f rr ∧ rr xs H Q
theorem call_any {f : Value} : CallR X f (anyC X f) := fun pins s σ H xs us Q I r ⟨_, h1, h2⟩ => h1 pins s σ H xs us Q I r h2
def aCB (r : AC) (t : AA) : AE := fun ρ M P EX => t ρ M (fun ds M1 => r ds M1 P) EX
variable {x : Str} {p : Pos} {es : List Expr} {t : AA} {id T : String} {r : AC}
theorem de_cb (hr : OkC X (.builtin id) r) (hm : X.mg x = none) (hv : bootBuiltins x = some (.builtin id)) (ha : DenA X (e :: es) t) (hg : Gl X x := by rfl) (hn : x ≠ "__name__" := by decide) (hdb : (x == ("__debug__" : Str)) = false := by decide)
    (he : starEach (e :: es) X.env = (false, eval e X.env) :: starEach es X.env := by rfl) (hpl : (backTo pos (starEach es X.env)).any (·.1) = false := by rfl) : DenE X (.Call (.Name x p) (e :: es) [] pos) (aCB r t) :=
  ⟨fun F ρ M P EX W σ H Q S tk h hP hX => (pe_callB call_any hg hm hv (pa_gw (X := X)) hn hdb he hpl).ew (ha.run F ρ M _ EX W σ H _ S tk h (fun vs ds M1 H1 s1 m1 dv q => hr F ds vs M1 P H1 Q m1 dv q fun z d M' H' st m d' p => hP z d M' H' (s1.trans st) m d' p) hX)⟩
theorem de_ct (hr : OkC X (.type T) r) (hm : X.mg x = none) (hv : bootBuiltins x = some (.type T)) (ha : DenA X (e :: es) t) (hg : Gl X x := by rfl) (hn : x ≠ "__name__" := by decide) (hdb : (x == ("__debug__" : Str)) = false := by decide)
    (he : starEach (e :: es) X.env = (false, eval e X.env) :: starEach es X.env := by rfl) (hpl : (backTo pos (starEach es X.env)).any (·.1) = false := by rfl) : DenE X (.Call (.Name x p) (e :: es) [] pos) (aCB r t) :=
  ⟨fun F ρ M P EX W σ H Q S tk h hP hX => (pe_callTy call_any hg hm hv (pa_gw (X := X)) hn hdb he hpl).ew (ha.run F ρ M _ EX W σ H _ S tk h (fun vs ds M1 H1 s1 m1 dv q => hr F ds vs M1 P H1 Q m1 dv q fun z d M' H' st m d' p => hP z d M' H' (s1.trans st) m d' p) hX)⟩
inductive LenA : AC
  | seq {x : D} {l : List D} {M : Mem} {P : AK} : SeqR M x l → P (.int (l.length : Int)) M → LenA [x] M P
  | str {z : Str} {M : Mem} {P : AK} : z.length ≤ 100000 → P (.int (z.length : Int)) M → LenA [.str z] M P
theorem okc_len : OkC X (.builtin "len") LenA := fun F ds vs M P H Q m dv h hP => by
  cases h with
  | seq hs q =>
    cases dv with
    | cons d1 d2 =>
      cases d2
      obtain ⟨a, xs, rfl, e, t⟩ := hs.inv m d1
      exact ⟨_, call_len_seq, a, xs, rfl, e, hP _ _ M H (Step.refl H M) m (.int _) (by rw [t.length]; exact q)⟩
  | str hz q =>
    cases dv with
    | cons d1 d2 =>
      cases d2; cases d1
      exact ⟨_, call_len_str, _, rfl, sz hz, hP _ _ M H (Step.refl H M) m (.int _) q⟩
inductive MaxA : AC
  | two {i j : Int} {M : Mem} {P : AK} : P (.int (if j > i then j else i)) M → MaxA [.int i, .int j] M P
  | lst {x : D} {ns : List Int} {M : Mem} {P : AK} : LstR M x (ns.map D.int) → 0 < ns.length → (∀ k, k ∈ ns → (∀ y, y ∈ ns → y ≤ k) → P (.int k) M) → MaxA [x] M P
inductive MinA : AC
  | two {i j : Int} {M : Mem} {P : AK} : P (.int (if j < i then j else i)) M → MinA [.int i, .int j] M P
  | lst {x : D} {ns : List Int} {M : Mem} {P : AK} : LstR M x (ns.map D.int) → 0 < ns.length → (∀ k, k ∈ ns → (∀ y, y ∈ ns → k ≤ y) → P (.int k) M) → MinA [x] M P
theorem okc_max (hc : X.calm = true) : OkC X (.builtin "max") MaxA := fun F ds vs M P H Q m dv h hP => by
  cases h with
  | two q => exact ⟨_, call_max2 hc, _, _, DVs.rngI dv (is := [_, _]) rfl, hP _ _ M H (Step.refl H M) m (.int _) q⟩
  | lst hs hl q =>
    cases dv with
    | cons d1 d2 =>
      cases d2
      obtain ⟨a, xs, rfl, e, t⟩ := hs.inv m d1
      have := DVs.rngI t rfl
      subst this
      exact ⟨_, cr_max hc, a, _, rfl, e, hl, fun k h1 h2 => hP _ _ M H (Step.refl H M) m (.int _) (q k h1 h2)⟩
theorem okc_min (hc : X.calm = true) : OkC X (.builtin "min") MinA := fun F ds vs M P H Q m dv h hP => by
  cases h with
  | two q => exact ⟨_, call_min2 hc, _, _, DVs.rngI dv (is := [_, _]) rfl, hP _ _ M H (Step.refl H M) m (.int _) q⟩
  | lst hs hl q =>
    cases dv with
    | cons d1 d2 =>
      cases d2
      obtain ⟨a, xs, rfl, e, t⟩ := hs.inv m d1
      have := DVs.rngI t rfl
      subst this
      exact ⟨_, cr_min hc, a, _, rfl, e, hl, fun k h1 h2 => hP _ _ M H (Step.refl H M) m (.int _) (q k h1 h2)⟩
inductive SumA : AC
  | lst {x : D} {ns : List Int} {M : Mem} {P : AK} : LstR M x (ns.map D.int) → P (.int ns.sum) M → SumA [x] M P
theorem okc_sum (hc : X.calm = true) : OkC X (.builtin "sum") SumA := fun F ds vs M P H Q m dv h hP => by
  cases h with
  | lst hs q =>
    cases dv with
    | cons d1 d2 =>
      cases d2
      obtain ⟨a, xs, rfl, e, t⟩ := hs.inv m d1
      have := DVs.rngI t rfl
      subst this
      exact ⟨_, cr_sum hc, a, _, rfl, e, hP _ _ M H (Step.refl H M) m (.int _) q⟩
theorem DVs.bls : ∀ {K : PySem.W.Frag} {H : Hp} {U : List Addr} {vs : List V} {ds : List D} {bs : List Bool}, DVs K H U vs ds → ds = bs.map D.bl → vs = bs.map V.bl
  | _, _, _, _, _, [], .nil, _ => rfl
  | _, _, _, _, _, i :: is, .cons a b, e => by
    cases e
    cases a
    rw [DVs.bls b rfl]; rfl
  | _, _, _, _, _, [], .cons _ _, e => by cases e
  | _, _, _, _, _, _ :: _, .nil, e => by cases e
theorem DVs.strs : ∀ {K : PySem.W.Frag} {H : Hp} {U : List Addr} {vs : List V} {ds : List D} {bs : List Str}, DVs K H U vs ds → ds = bs.map D.str → vs = bs.map V.str
  | _, _, _, _, _, [], .nil, _ => rfl
  | _, _, _, _, _, i :: is, .cons a b, e => by
    cases e
    cases a
    rw [DVs.strs b rfl]; rfl
  | _, _, _, _, _, [], .cons _ _, e => by cases e
  | _, _, _, _, _, _ :: _, .nil, e => by cases e
theorem dvs_strs {K : PySem.W.Frag} {H : Hp} {U : List Addr} : ∀ {bs : List Str}, DVs K H U (bs.map V.str) (bs.map D.str)
  | [] => .nil
  | _ :: _ => .cons (.str _) dvs_strs
theorem dvs_ints {K : PySem.W.Frag} {H : Hp} {U : List Addr} : ∀ {bs : List Int}, DVs K H U (bs.map V.int) (bs.map D.int)
  | [] => .nil
  | _ :: _ => .cons (.int _) dvs_ints
inductive AllA : AC
  | lst {x : D} {bs : List Bool} {M : Mem} {P : AK} : LstR M x (bs.map D.bl) → P (.bl (bs.all _root_.id)) M → AllA [x] M P
inductive AnyA : AC
  | lst {x : D} {bs : List Bool} {M : Mem} {P : AK} : LstR M x (bs.map D.bl) → P (.bl (bs.any _root_.id)) M → AnyA [x] M P
theorem okc_all (hc : X.calm = true) : OkC X (.builtin "all") AllA := fun F ds vs M P H Q m dv h hP => by
  cases h with
  | lst hs q =>
    cases dv with
    | cons d1 d2 =>
      cases d2
      obtain ⟨a, xs, rfl, e, t⟩ := hs.inv m d1
      have := DVs.bls t rfl
      subst this
      exact ⟨_, cr_all hc, a, _, rfl, e, hP _ _ M H (Step.refl H M) m (.bl _) q⟩
theorem okc_any (hc : X.calm = true) : OkC X (.builtin "any") AnyA := fun F ds vs M P H Q m dv h hP => by
  cases h with
  | lst hs q =>
    cases dv with
    | cons d1 d2 =>
      cases d2
      obtain ⟨a, xs, rfl, e, t⟩ := hs.inv m d1
      have := DVs.bls t rfl
      subst this
      exact ⟨_, cr_any hc, a, _, rfl, e, hP _ _ M H (Step.refl H M) m (.bl _) q⟩
inductive TupleA : AC
  | seq {x : D} {l : List D} {M : Mem} {P : AK} : SeqR M x l → P (.tup l) M → TupleA [x] M P
theorem okc_tuple : OkC X (.type "tuple") TupleA := fun F ds vs M P H Q m dv h hP => by
  cases h with
  | seq hs q =>
    cases dv with
    | cons d1 d2 =>
      cases d2
      cases hs with
      | tup =>
        obtain ⟨a, xs, rfl, e, t⟩ := d1.tup_inv
        exact ⟨_, call_tuple_of, a, xs, rfl, Or.inr ⟨e, hP _ _ M H (Step.refl H M) m d1 q⟩⟩
      | tpn =>
        obtain ⟨a, xs, rfl, e, t, d'⟩ := d1.tpn_inv
        exact ⟨_, call_tuple_of, a, xs, rfl, Or.inr ⟨e, hP _ _ M H (Step.refl H M) m d' q⟩⟩
      | fr =>
        obtain ⟨a, xs, rfl, e, t⟩ := LstR.inv .fr m d1
        refine ⟨_, call_tuple_of, a, xs, rfl, Or.inl ⟨e, fun l hl => ?_⟩⟩
        obtain ⟨s1, m1, d1⟩ := new_tup m hl t
        exact hP _ _ M _ s1 m1 d1 q
      | sk =>
        obtain ⟨a, xs, rfl, e, t⟩ := LstR.inv .sk m d1
        refine ⟨_, call_tuple_of, a, xs, rfl, Or.inl ⟨e, fun l hl => ?_⟩⟩
        obtain ⟨s1, m1, d1⟩ := new_tup m hl t
        exact hP _ _ M _ s1 m1 d1 q
      | mu hm =>
        obtain ⟨a, xs, rfl, e, t⟩ := LstR.inv (.mu hm) m d1
        refine ⟨_, call_tuple_of, a, xs, rfl, Or.inl ⟨e, fun l hl => ?_⟩⟩
        obtain ⟨s1, m1, d1⟩ := new_tup m hl t
        exact hP _ _ M _ s1 m1 d1 q
/-- list(xs): data, or (M) a list that may change -/
inductive ListA : AC
  | seq {x : D} {l : List D} {M : Mem} {P : AK} : SeqR M x l → P (.lst l) M → ListA [x] M P
inductive ListMA : AC
  | seq {x : D} {l : List D} {M : Mem} {P : AK} : SeqR M x l → (∀ q, q ∉ dom M → P (.ref q) (M ++ [(q, .lst l)])) → ListMA [x] M P
theorem okc_list : OkC X (.type "list") ListA := fun F ds vs M P H Q m dv h hP => by
  cases h with
  | seq hs q =>
    cases dv with
    | cons d1 d2 =>
      cases d2
      obtain ⟨a, xs, rfl, e, t⟩ := hs.inv m d1
      refine ⟨_, call_list_of, a, xs, rfl, e, fun l hl => ?_⟩
      obtain ⟨s1, m1, d1⟩ := new_lst m hl t
      exact hP _ _ M _ s1 m1 d1 q
theorem okc_listM : OkC X (.type "list") ListMA := fun F ds vs M P H Q m dv h hP => by
  cases h with
  | seq hs q =>
    cases dv with
    | cons d1 d2 =>
      cases d2
      obtain ⟨a, xs, rfl, e, t⟩ := hs.inv m d1
      refine ⟨_, call_list_of, a, xs, rfl, e, fun l hl => ?_⟩
      obtain ⟨s1, m1, n1⟩ := new_mut m hl t
      exact hP _ _ _ _ s1 m1 (.ref _) (q l n1)
/-- int(x), str(n), sorted texts, sorted ints -/
inductive IntA : AC
  | int {i : Int} {M : Mem} {P : AK} : P (.int i) M → IntA [.int i] M P
  | bl {b : Bool} {M : Mem} {P : AK} : P (.int (if b = true then 1 else 0)) M → IntA [.bl b] M P
theorem okc_int : OkC X (.type "int") IntA := fun F ds vs M P H Q m dv h hP => by
  cases h with
  | int q =>
    cases dv with
    | cons d1 d2 =>
      cases d2; cases d1
      exact ⟨_, call_int1, Or.inl ⟨_, rfl, hP _ _ M H (Step.refl H M) m (.int _) q⟩⟩
  | bl q =>
    cases dv with
    | cons d1 d2 =>
      cases d2; cases d1
      exact ⟨_, call_int1, Or.inr ⟨_, rfl, hP _ _ M H (Step.refl H M) m (.int _) q⟩⟩
inductive StrA : AC
  | int {i : Int} {M : Mem} {P : AK} : i.natAbs.log2 < 1920 → P (.str (toString i)) M → StrA [.int i] M P
theorem okc_str : OkC X (.type "str") StrA := fun F ds vs M P H Q m dv h hP => by
  cases h with
  | int hi q =>
    cases dv with
    | cons d1 d2 =>
      cases d2; cases d1
      exact ⟨_, call_str_int, _, rfl, hi, hP _ _ M H (Step.refl H M) m (.str _) q⟩
inductive SortedA : AC
  | txts {x : D} {ss : List Str} {M : Mem} {P : AK} : LstR M x (ss.map D.str) → ss.length < 64 → (∀ ys : List Str, ys.Perm ss → sortedS ys = true → P (.lst (ys.map D.str)) M) → SortedA [x] M P
theorem okc_sorted : OkC X (.builtin "sorted") SortedA := fun F ds vs M P H Q m dv h hP => by
  cases h with
  | txts hs hl q =>
    cases dv with
    | cons d1 d2 =>
      cases d2
      obtain ⟨a, xs, rfl, e, t⟩ := hs.inv m d1
      have := DVs.strs t rfl
      subst this
      refine ⟨_, cr_sortedS, a, _, rfl, e, hl, fun ys p hp hs hn => ?_⟩
      obtain ⟨s1, m1, d1⟩ := new_lst (X := X) m hn (dvs_strs (bs := ys))
      exact hP _ _ M _ s1 m1 d1 (q ys hp hs)

/-! ### isinstance -/
/-- the type that a thing has -/
inductive TyA (M : Mem) : D → String → Prop
  | non : TyA M .non "NoneType"
  | bl {b : Bool} : TyA M (.bl b) "bool"
  | int {i : Int} : TyA M (.int i) "int"
  | str {s : Str} : TyA M (.str s) "str"
  | tup {l : List D} : TyA M (.tup l) "tuple"
  | tpn {l : List D} : TyA M (.tpn l) "tuple"
  | lst {l : List D} : TyA M (.lst l) "list"
  | lsk {l : List D} : TyA M (.lsk l) "list"
  | dic {l : List (Key × D)} : TyA M (.dic l) "dict"
  | mlst {a : Addr} {l : List D} : (a, MO.lst l) ∈ M → TyA M (.ref a) "list"
theorem TyA.tyx {F : List Addr} {H : Hp} {M : Mem} {d : D} {n : String} {v : V} (h : TyA M d n) (m : MSt X.K H F M) (dv : DV X.K H (um F M) v d) : TyX X.K H v (.type n) := by
  cases h with
  | non => cases dv; exact .base .non
  | bl => cases dv; exact .base (.bl _)
  | int => cases dv; exact .base (.int _)
  | str => cases dv; exact .base (.str _)
  | tup =>
    obtain ⟨a, xs, rfl, hs, t⟩ := dv.tup_inv
    rcases hs with (hs | ⟨o, hs⟩) | ⟨o, its, n, hk, hc, _⟩
    · exact .base (.tup hs)
    · exact .fTuple hs
    · exact .kTuple hk hc
  | tpn =>
    cases dv with
    | tpn h hd hn t => exact .fTuple h
    | tpnK h1 h2 h3 h t => exact .kTuple h1 h2
  | lst => cases dv with
    | lst h hn t => exact .base (.lst h)
  | lsk =>
    obtain ⟨a, xs, rfl, hs, t⟩ := LstR.inv .sk m dv
    rcases hs with (hs | ⟨o, hs⟩) | ⟨o, its, n, hk, hc, _⟩
    · exact .base (.lst hs)
    · exact .base (.frz hs)
    · exact .kList hk hc
  | dic => cases dv with
    | dic h hn t => exact .base (.dK h)
  | mlst hm =>
    cases dv
    obtain ⟨xs, e, _⟩ := m.ok _ hm
    exact .base (.lst e)
inductive IsiA : AC
  | one {x : D} {n c : String} {b : Bool} {M : Mem} {P : AK} : TyA M x n → kitB n c = some b → P (.bl b) M → IsiA [x, .ty c] M P
theorem okc_isi : OkC X (.builtin "isinstance") IsiA := fun F ds vs M P H Q m dv h hP => by
  cases h with
  | one ht hk q =>
    cases dv with
    | cons d1 d2 =>
      cases d2 with
      | cons d2 d3 =>
        cases d3; cases d2
        exact ⟨_, call_isi, _, _, _, _, _, rfl, .ty _, ht.tyx m d1, kit_ty hk, hP _ _ M H (Step.refl H M) m (.bl _) q⟩

/-! ### walks of texts -/
def signs (z : Str) : List D := z.cps.toList.map fun (c : Nat) => D.str ⟨#[c]⟩
def iStrA (te : AE) : AI := fun ρ M P EX => te ρ M (fun d M1 => ∃ z, d = .str z ∧ P (signs z) M1) EX
/-! ### methods -/
abbrev AM := D → List D → Mem → AK → Prop
def OkM (X : Cx) (T id : String) (r : AM) : Prop := ∀ (F : List Addr) (x : D) (v : V) (ds : List D) (vs : List V) (M : Mem) (P : AK) (H : Hp) (Q : VK), MSt X.K H F M → DV X.K H (um F M) v x → DVs X.K H (um F M) vs ds → r x ds M P →
  (∀ z d M' H', Step H M H' M' → MSt X.K H' F M' → DV X.K H' (um F M') z d → P d M' → Q z H') → ∃ rr, MtR X id rr ∧ rr v vs H Q
def anyM (X : Cx) (id : String) : V → List V → Hp → VK → Prop := fun x xs H Q => ∃ rr, MtR X id rr ∧ rr x xs H Q
theorem mt_any : MtR X id (anyM X id) := fun pins s σ H x xs v us Q I r1 r2 ⟨_, h1, h2⟩ => h1 pins s σ H x xs v us Q I r1 r2 h2
/-- the receiver is of the type by its looks, ahead of the arguments -/
inductive RcA (M : Mem) : String → D → Prop
  | str {s : Str} : RcA M "str" (.str s)
  | lst {l : List D} : RcA M "list" (.lst l)
  | lsk {l : List D} : RcA M "list" (.lsk l)
  | mlst {a : Addr} {l : List D} : (a, MO.lst l) ∈ M → RcA M "list" (.ref a)
theorem RcA.ty {F : List Addr} {H : Hp} {M : Mem} {d : D} {T : String} {v : V} (h : RcA M T d) (m : MSt X.K H F M) (dv : DV X.K H (um F M) v d) : tyV X.K T v H := by
  cases h with
  | str => cases dv; rfl
  | lst =>
    obtain ⟨a, xs, rfl, e, t⟩ := LstR.inv .fr m dv
    exact Or.inl ⟨rfl, xs, e⟩
  | lsk =>
    obtain ⟨a, xs, rfl, e, t⟩ := LstR.inv .sk m dv
    exact Or.inl ⟨rfl, xs, e⟩
  | mlst hm =>
    obtain ⟨a, xs, rfl, e, t⟩ := LstR.inv (.mu hm) m dv
    exact Or.inl ⟨rfl, xs, e⟩
def aBM (T : String) (r : AM) (to : AE) (t : AA) : AE := fun ρ M P EX => to ρ M (fun x M1 => RcA M1 T x ∧ t ρ M1 (fun ds M2 => r x ds M2 P) EX) EX
variable {apos cpos : Pos} {name : Str} {to : AE} {rm : AM}
theorem de_bm (pa : PlainAttrs T) (slot : Slot T name id) (hty : typeOf (.builtin id) = pure (.type "method_descriptor")) (hm : OkM X T id rm) (ho : DenE X o to) (ha : DenA X (e :: es) t)
    (hbase : attributeBase o name X.env (eval o X.env) = eval o X.env := by rfl)
    (hfew : ((backTo cpos (starEach (e :: es) X.env)).all (fun x => !x.1) && (backToKw cpos (keywordEach [] X.env)).all (fun x => x.1.isSome) && decide ((e :: es).length + ([] : List Keyword).length + (if ([] : List Keyword).isEmpty then 0 else 1) < 30)) = true := by rfl)
    (hline : (apos.endLine == cpos.line) = true := by rfl) (hs : starEach (e :: es) X.env = (false, eval e X.env) :: starEach es X.env := by rfl) (hplain : (backTo cpos (starEach es X.env)).any (·.1) = false := by rfl) :
    DenE X (.Call (.Attribute o name apos) (e :: es) [] cpos) (aBM T rm to t) :=
  ⟨fun F ρ M P EX W σ H Q S tk h hP hX => (pe_bm pa slot hty mt_any (pe_ew (X := X)) (pa_gw (X := X)) hbase hfew hline hs hplain).ew (ho.run F ρ M _ EX W σ H _ S tk h (fun v x M1 H1 s1 m1 dv q =>
    ⟨q.1.ty m1 dv, ha.run F ρ M1 _ EX W σ H1 _ (S.step s1 m1) tk q.2 (fun vs ds M2 H2 s2 m2 dvs q2 => hm F x v ds vs M2 P H2 Q m2 (dv.step s2) dvs q2 fun z d M' H' st m d' p => hP z d M' H' ((s1.trans s2).trans st) m d' p) (hX.step s1)⟩) hX)⟩
theorem de_bm0 (pa : PlainAttrs T) (slot : Slot T name id) (hty : typeOf (.builtin id) = pure (.type "method_descriptor")) (hm : OkM X T id rm) (ho : DenE X o to)
    (hbase : attributeBase o name X.env (eval o X.env) = eval o X.env := by rfl) (hline : (apos.endLine == cpos.line) = true := by rfl) : DenE X (.Call (.Attribute o name apos) [] [] cpos) (aBM T rm to aNil) :=
  ⟨fun F ρ M P EX W σ H Q S tk h hP hX => (pe_bm0 pa slot hty mt_any (pe_ew (X := X)) hbase hline).ew (ho.run F ρ M _ EX W σ H _ S tk h (fun v x M1 H1 s1 m1 dv q =>
    ⟨q.1.ty m1 dv, hm F x v [] [] M1 P H1 Q m1 dv .nil q.2 fun z d M' H' st m d' p => hP z d M' H' (s1.trans st) m d' p⟩) hX)⟩
inductive AppA : AM
  | mk {a : Addr} {l : List D} {y : D} {M M' : Mem} {P : AK} : PutM M a (.lst l) (.lst (l ++ [y])) M' → l.length < 100000 → P .non M' → AppA (.ref a) [y] M P
theorem okm_append : OkM X "list" "list.append" AppA := fun F x v ds vs M P H Q m dv dvs h hP => by
  cases h with
  | mk hp hz q =>
    cases dv
    cases dvs with
    | @cons w ws _ _ d1 d2 =>
      cases d2
      obtain ⟨xs, e1, e2⟩ := m.ok _ hp.old
      have st := hp.step (H := H) (ho := .lst (xs ++ [w]))
      have m2 := hp.mst (ho := .lst (xs ++ [w])) m ⟨_, upd_same, (e2.step st).append (DVs.one (d1.step st))⟩
      exact ⟨_, mt_append, _, xs, _, rfl, rfl, e1, by rw [e2.length]; exact Nat.lt_of_lt_of_le hz (by decide), hP _ _ _ _ st m2 .non q⟩
inductive PopA : AM
  | mk {a : Addr} {l : List D} {y : D} {M M' : Mem} {P : AK} : PutM M a (.lst l) (.lst l.dropLast) M' → l[l.length - 1]? = some y → P y M' → PopA (.ref a) [] M P
theorem DVs.dropLast {K : PySem.W.Frag} {H : Hp} {U : List Addr} {vs : List V} {ds : List D} (h : DVs K H U vs ds) : DVs K H U vs.dropLast ds.dropLast := by
  rw [List.dropLast_eq_take, List.dropLast_eq_take, h.length]; exact h.take _
theorem okm_pop : OkM X "list" "list.pop" PopA := fun F x v ds vs M P H Q m dv dvs h hP => by
  cases h with
  | mk hp hy q =>
    cases dv; cases dvs
    obtain ⟨xs, e1, e2⟩ := m.ok _ hp.old
    obtain ⟨w, e3, e4⟩ := e2.get hy
    have st := hp.step (H := H) (ho := .lst xs.dropLast)
    have m2 := hp.mst (ho := .lst xs.dropLast) m ⟨_, upd_same, (e2.step st).dropLast⟩
    exact ⟨_, mt_pop, _, xs, w, rfl, rfl, e1, by rw [e2.length]; exact e3, hP _ _ _ _ st m2 (e4.step st) q⟩
inductive JoinA : AM
  | mk {a : Str} {x : D} {ss : List Str} {M : Mem} {P : AK} : SeqR M x (ss.map D.str) → (ss.map (·.length)).sum + ss.length * a.length ≤ 16777216 → P (.str (Txt.join a ss)) M → JoinA (.str a) [x] M P
theorem okm_join : OkM X "str" "str.join" JoinA := fun F x v ds vs M P H Q m dv dvs h hP => by
  cases h with
  | mk hs hz q =>
    cases dv
    cases dvs with
    | cons d1 d2 =>
      cases d2
      obtain ⟨a, xs, rfl, e, t⟩ := hs.inv m d1
      have := DVs.strs t rfl
      subst this
      exact ⟨_, mt_join, _, a, _, rfl, rfl, e, hz, hP _ _ M H (Step.refl H M) m (.str _) q⟩

/-! ### truth -/
inductive TruA (M : Mem) : D → Bool → Prop
  | non : TruA M .non false
  | bl {b : Bool} : TruA M (.bl b) b
  | int {i : Int} : TruA M (.int i) (i != 0)
  | str {s : Str} : s.length ≤ 100000 → TruA M (.str s) ((s.length : Int) != 0)
  | seq {x : D} {l : List D} : SeqR M x l → TruA M x (!l.isEmpty)
def aTru (te : AE) : AT := fun ρ M P EX => te ρ M (fun d M1 => ∃ b, TruA M1 d b ∧ P b M1) EX
theorem dt_tru (h : DenE X e te) (he : ∀ whole, isTrue e X.env whole = (do let v ← whole; standAt e.pos; holding [v] (truthy v)) := by intro _; rfl) : DenT X e (aTru te) :=
  ⟨fun F ρ M P EX W σ H Q S tk q hP hX => (pt_truth (pe_ew (X := X)) he).tw (h.run F ρ M _ EX W σ H _ S tk q (fun v d M1 H1 s1 m1 dv p => by
    obtain ⟨b, hb, p⟩ := p
    refine ⟨b, ?_, hP b M1 H1 s1 m1 p⟩
    cases hb with
    | non => cases dv; rfl
    | bl => cases dv; rfl
    | int => cases dv; rfl
    | str hz => cases dv; exact ⟨sz hz, rfl⟩
    | seq hs =>
      obtain ⟨a, xs, rfl, e, t⟩ := hs.inv m1 dv
      have el : ∀ {l : List D}, DVs X.K H1 (um F M1) xs l → (!l.isEmpty) = !xs.isEmpty := fun t => by cases t <;> rfl
      rcases e with e | e
      · exact Or.inl ⟨xs, e, el t⟩
      · exact Or.inr (Or.inl ⟨xs, e, el t⟩)) hX)⟩

/-! ### xs[i] = e -/
def gSetL (to ti : AE) : AG := fun d ρ M P => to ρ M (fun o M1 => ti ρ M1 (fun i M2 => ∃ a l j k M3, o = .ref a ∧ i = .int j ∧ ixN l.length j = some k ∧ PutM M2 a (.lst l) (.lst (l.set k d)) M3 ∧ P ρ M3) noX) noX
theorem dg_sub {o i : Expr} {ti : AE} (ho : DenE X o to) (hi : DenE X i ti)
    (ha : ∀ v, assign (.Subscript o i pos) X.env v = (do
        let ov ← holding [v] (eval o X.env)
        let iv ← holding [v, ov] (eval i X.env)
        standAt pos
        holding [v, ov, iv] (setItem ov iv v)
        release [v, ov, iv] []) := by intro _; rfl) : DenG X (.Subscript o i pos) [] (gSetL to ti) :=
  ⟨fun F v d ρ M P W σ H Q S dv tk h hP => fun pins s u I r => by
    refine (pg_sub (t := rSetL) (pe_ew (X := X)) (pe_ew (X := X)) set_list ha).run pins s σ H v u Q I r ?_
    refine ho.run F ρ M _ noX W σ H _ S tk h (fun w x M1 H1 s1 m1 dw h1 => hi.run F ρ M1 _ noX W σ H1 _ (S.step s1 m1) tk h1 (fun w' y M2 H2 s2 m2 dw' h2 => ?_) (fun _ _ _ _ _ _ _ _ z => z.elim)) (fun _ _ _ _ _ _ _ _ z => z.elim)
    obtain ⟨a, l, j, k, M3, rfl, rfl, hk, hp, q⟩ := h2
    cases dw; cases dw'
    obtain ⟨xs, e1, e2⟩ := m2.ok _ hp.old
    have st := hp.step (H := H2) (ho := .lst (xs.set k v))
    have m3 := hp.mst (ho := .lst (xs.set k v)) m2 ⟨_, upd_same, DVs.set (((dv.step s1).step s2).step st) k (e2.step st)⟩
    exact ⟨a, xs, j, k, rfl, rfl, e1, by rw [e2.length]; exact hk, hP ρ M3 σ _ ((s1.trans s2).trans st) (S.step ((s1.trans s2).trans st) m3) OutEq.refl q⟩⟩
/-! ### x op= e, xs[i] op= e -/
def aAug (i : Nat) (r : A2) (te : AE) : AS := fun ρ M k => ∃ x, gS ρ i = some x ∧ te ρ M (fun y M1 => r x y M1 (fun z M2 => k.nx (sS ρ i z) M2)) (fun x M' => k.ex x ρ M')
inductive IAddA : A2
  | int {i j : Int} {M : Mem} {P : AK} : P (.int (i + j)) M → IAddA (.int i) (.int j) M P
inductive ISubA : A2
  | int {i j : Int} {M : Mem} {P : AK} : P (.int (i - j)) M → ISubA (.int i) (.int j) M P
theorem ds_augAdd (i : Nat) {x : Str} {pos' : Pos} (hN : X.N.Nodup) (he : DenE X e te) (hi : X.N[i]? = some x := by rfl) (hx : Loc X.env.scope x := by first | exact Or.inl rfl | exact Or.inr rfl) (hf : X.fn x = true ∨ X.env.scope.names.lookup x = some .local := by first | exact .inl rfl | exact .inr rfl | assumption) :
    DenS X (.AugAssign (.Name x pos') .Add e pos) (aAug i IAddA te) :=
  ⟨fun F ρ M k W σ H D S tk h L => fun pins s I => (ps_aug hN hi hx (pe_ew (X := X)) ip_add hf).run pins s σ H D I (by
    obtain ⟨d, e1, h⟩ := h
    obtain ⟨v, e2, dv⟩ := S.sl.at_ i d (gS_get e1)
    refine ⟨v, e2, he.run F ρ M _ _ W σ H _ S tk h (fun w y M1 H1 s1 m1 dw q => ?_) (L.lx S)⟩
    cases q with
    | int q =>
      cases dv; cases dw
      exact ⟨_, _, rfl, rfl, L.nx _ M1 _ H1 s1 ⟨by rw [sS_set]; exact (S.sl.step s1).set (.int _) i, m1⟩ q⟩)⟩
theorem ds_augSub (i : Nat) {x : Str} {pos' : Pos} (hN : X.N.Nodup) (he : DenE X e te) (hi : X.N[i]? = some x := by rfl) (hx : Loc X.env.scope x := by first | exact Or.inl rfl | exact Or.inr rfl) (hf : X.fn x = true ∨ X.env.scope.names.lookup x = some .local := by first | exact .inl rfl | exact .inr rfl | assumption) :
    DenS X (.AugAssign (.Name x pos') .Sub e pos) (aAug i ISubA te) :=
  ⟨fun F ρ M k W σ H D S tk h L => fun pins s I => (ps_aug hN hi hx (pe_ew (X := X)) ip_sub hf).run pins s σ H D I (by
    obtain ⟨d, e1, h⟩ := h
    obtain ⟨v, e2, dv⟩ := S.sl.at_ i d (gS_get e1)
    refine ⟨v, e2, he.run F ρ M _ _ W σ H _ S tk h (fun w y M1 H1 s1 m1 dw q => ?_) (L.lx S)⟩
    cases q with
    | int q =>
      cases dv; cases dw
      exact ⟨_, _, rfl, rfl, L.nx _ M1 _ H1 s1 ⟨by rw [sS_set]; exact (S.sl.step s1).set (.int _) i, m1⟩ q⟩)⟩
def rGetL (K : PySem.W.Frag) : V → V → Hp → VK → Prop := fun x y H Q => ∃ (p : Addr) (xs : List V) (j : Nat) (v : V), x = V.ref p ∧ y = V.int (j : Int) ∧ SqL K H p xs ∧ xs[j]? = some v ∧ Q v H
theorem get_list : PGet X (rGetL X.K) := by
  intro pins s σ H x y u w Q I rx ry h
  obtain ⟨p, xs, j, z, rfl, rfl, hs, hz, q⟩ := h
  cases rx
  obtain ⟨t, rfl⟩ := ry
  obtain ⟨its, r, pl, hl⟩ := I.list hs
  obtain ⟨u, eu, ru⟩ := r.get hz
  have hj : j < xs.length := (List.getElem?_eq_some_iff.mp hz).1
  have h63 := line63
  refine wpAny_getItem_list pl.isList (by omega) (by omega) (x := u) (by simpa using eu) ⟨z, H, I, ru, q⟩
/-- xs[i] += e over ints, xs in memory -/
def aAugS (neg : Bool) (to ti te : AE) : AS := fun ρ M k => to ρ M (fun o M1 => ti ρ M1 (fun i M2 => ∃ (a : Addr) (l : List D) (j : Nat) (c : Int), o = .ref a ∧ i = .int (j : Int) ∧ (a, MO.lst l) ∈ M2 ∧ l[j]? = some (.int c) ∧
  te ρ M2 (fun y M3 => ∃ c2 M4, y = .int c2 ∧ PutM M3 a (.lst l) (.lst (l.set j (.int (if neg = true then c - c2 else c + c2)))) M4 ∧ k.nx ρ M4) (fun x M' => k.ex x ρ M')) (fun x M' => k.ex x ρ M')) (fun x M' => k.ex x ρ M')
theorem ixN_nat' {n j : Nat} (hj : j < n) : ixN n (j : Int) = some j := by
  unfold ixN
  rw [if_pos (by omega), if_pos (by omega)]
  simp
theorem ds_augS {o i : Expr} {ti : AE} {tpos : Pos} (neg : Bool) {op : Operator} (hop : op = if neg = true then .Sub else .Add) (ho : DenE X o to) (hi : DenE X i ti) (he : DenE X e te)
    (ha : ∀ ov iv new, augStore i ov iv new = (do holding [new, ov, iv] (setItem ov iv new); release [new, ov, iv] []; pure .next) := by intros; rfl) :
    DenS X (.AugAssign (.Subscript o i tpos) op e pos) (aAugS neg to ti te) :=
  ⟨fun F ρ M k W σ H D S tk h L => fun pins s I => by
    have ip : PIp X op (ipI fun i j => if neg = true then i - j else i + j) := by
      cases neg with
      | true => rw [hop]; exact ip_sub
      | false => rw [hop]; exact ip_add
    refine (ps_augS (pe_ew (X := X)) (pe_ew (X := X)) get_list (pe_ew (X := X)) ip set_list ha).run pins s σ H D I ?_
    refine ho.run F ρ M _ _ W σ H _ S tk h (fun v1 x M1 H1 s1 m1 d1 h1 => hi.run F ρ M1 _ _ W σ H1 _ (S.step s1 m1) tk h1 (fun v2 y M2 H2 s2 m2 d2 h2 => ?_) ((L.step s1).lx (S.step s1 m1))) (L.lx S)
    obtain ⟨a, l, j, c, rfl, rfl, hm, hj, q⟩ := h2
    cases d1; cases d2
    obtain ⟨xs, e1, e2⟩ := m2.ok _ hm
    obtain ⟨z, e3, dz⟩ := e2.get hj
    cases dz
    have s12 := s1.trans s2
    refine ⟨a, xs, j, _, rfl, rfl, SqL.of e1, e3, he.run F ρ M2 _ _ W σ H2 _ (S.step s12 m2) tk q (fun v3 y M3 H3 s3 m3 d3 q3 => ?_) ((L.step s12).lx (S.step s12 m2))⟩
    obtain ⟨c2, M4, rfl, hp, q4⟩ := q3
    cases d3
    obtain ⟨ys, f1, f2⟩ := m3.ok _ hp.old
    have hlt : j < l.length := (List.getElem?_eq_some_iff.mp hj).1
    have st := hp.step (H := H3) (ho := .lst (ys.set j (.int (if neg = true then c - c2 else c + c2))))
    have m4 := hp.mst (ho := .lst (ys.set j (.int (if neg = true then c - c2 else c + c2)))) m3 ⟨_, upd_same, DVs.set (.int _) j (f2.step st)⟩
    exact ⟨c, c2, rfl, rfl, a, ys, (j : Int), j, rfl, rfl, f1, by rw [f2.length]; exact ixN_nat' hlt, L.nx ρ M4 σ _ ((s12.trans s3).trans st) (S.step ((s12.trans s3).trans st) m4) q4⟩⟩

/-! ### an object of memory becomes data, or stays -/
inductive FrzA : D → Mem → AK → Prop
  | lst {a : Addr} {l : List D} {M Mr : Mem} {P : AK} : Split M [(a, .lst l)] Mr → P (.lst l) Mr → FrzA (.ref a) M P
  | obj {a C : Addr} {fs : List (Str × D)} {M Mr : Mem} {P : AK} : Split M [(a, .ins C fs)] Mr → P (.obj C fs) Mr → FrzA (.ref a) M P
  | keep {d : D} {M : Mem} {P : AK} : P d M → FrzA d M P
def aFrz (te : AE) : AE := fun ρ M P EX => te ρ M (fun d M1 => FrzA d M1 P) EX
theorem de_frz (he : DenE X e te) : DenE X e (aFrz te) :=
  ⟨fun F ρ M P EX W σ H Q S tk h hP hX => he.run F ρ M _ EX W σ H Q S tk h (fun v d M1 H1 s1 m1 dv q => by
    cases q with
    | lst hs q =>
      cases dv
      obtain ⟨m2, s2, o2, n2⟩ := split_one m1 hs
      exact hP _ _ _ H1 (s1.trans s2) m2 (o2.lst' n2) q
    | obj hs q =>
      cases dv
      obtain ⟨m2, s2, o2, n2⟩ := split_one m1 hs
      exact hP _ _ _ H1 (s1.trans s2) m2 (o2.obj n2) q
    | keep q => exact hP _ _ _ H1 s1 m1 dv q) hX⟩
end
end Ab
set_option maxRecDepth 100000
set_option maxHeartbeats 2000000
/-! Ab9: readings step by step; defs by name. -/
namespace Ab
open PySem L2 PyProof.Rows

/-! ### a def by its name -/
structure Fn1 (P : Program) (w : World) (K : PySem.W.Frag) (mg : Str → Option Value) (base : Heap) (x : Str) (k : Nat) (ks : List Str) (n m : Nat) (g : List D → List D → List D) (S : ASp) : Prop where
  ex : ∃ (f : Addr) (fd : FuncData) (ps : List Str), FnOk P w K mg base (L2.CX P w) k f fd ps (spOf K S) ∧ mg x = some (.ref f) ∧ PySem.W.keepIn K (.ref f) = true ∧ KB K fd ps ks n m g
/-- a method of the class at C -/
structure Mt1 (P : Program) (w : World) (K : PySem.W.Frag) (mg : Str → Option Value) (base : Heap) (C : Addr) (x : Str) (k : Nat) (ks : List Str) (n m : Nat) (g : List D → List D → List D) (S : ASp) : Prop where
  ex : ∃ (f : Addr) (fd : FuncData) (ps : List Str), FnOk P w K mg base (L2.CX P w) k f fd ps (spOf K S) ∧ Cls K C ∧ Meth K C x f ∧ KB K fd ps ks n m g
/-- a class and its __init__ -/
structure Mk1 (P : Program) (w : World) (K : PySem.W.Frag) (mg : Str → Option Value) (base : Heap) (x : Str) (C : Addr) (k : Nat) (ks : List Str) (n m : Nat) (g : List D → List D → List D) (S : ASp) : Prop where
  ex : ∃ (f : Addr) (fd : FuncData) (ps : List Str), FnOk P w K mg base (L2.CX P w) k f fd ps (spOf K S) ∧ Mk K C f ∧ mg x = some (.ref C) ∧ KM K fd ps ks n m g
section
variable {X : Cx} {x m : Str} {k n : Nat} {S : ASp} {g : List D → List D → List D} {p pos apos : Pos} {e o : Expr} {es : List Expr} {t tk' : AA} {ta : AE}
theorem de_f (h : Fn1 X.prog X.w X.K X.mg X.base x k [] n 0 g S) (hr : Room k X.A) (ha : DenA X (e :: es) t)
    (hg : Gl X x := by rfl) (hdb : (x == ("__debug__" : Str)) = false := by decide) (he : starEach (e :: es) X.env = (false, eval e X.env) :: starEach es X.env := by rfl) (hpl : (backTo pos (starEach es X.env)).any (·.1) = false := by rfl) :
    DenE X (.Call (.Name x p) (e :: es) [] pos) (aCall S g n t) := by
  obtain ⟨f, fd, ps, h1, h2, h3, h4⟩ := h.ex
  exact de_call h1 hr h2 h3 h4 ha hg hdb he hpl
theorem de_f0 (h : Fn1 X.prog X.w X.K X.mg X.base x k [] 0 0 g S) (hr : Room k X.A) (hg : Gl X x := by rfl) (hdb : (x == ("__debug__" : Str)) = false := by decide) :
    DenE X (.Call (.Name x p) [] [] pos) (aCall S g 0 aNil) := by
  obtain ⟨f, fd, ps, h1, h2, h3, h4⟩ := h.ex
  exact de_call0 h1 hr h2 h3 h4 hg hdb
theorem de_fk {kws : List Keyword} {ks : List Str} {m' : Nat} (h : Fn1 X.prog X.w X.K X.mg X.base x k ks n m' g S) (hr : Room k X.A) (ha : DenA X (e :: es) t) (hkw : DenK X kws tk')
    (hg : Gl X x := by rfl) (hall : (backToKw pos (keywordEach kws X.env)).all (·.1.isSome) = true := by rfl) (hks : (backToKw pos (keywordEach kws X.env)).filterMap (·.1) = ks := by rfl)
    (hdb : (x == ("__debug__" : Str)) = false := by decide) (he : starEach (e :: es) X.env = (false, eval e X.env) :: starEach es X.env := by rfl)
    (hpl : ((backTo pos (starEach (e :: es) X.env)).any (·.1) || (backToKw pos (keywordEach kws X.env)).any (·.1.isNone)) = false := by rfl) :
    DenE X (.Call (.Name x p) (e :: es) kws pos) (aCallK S g n m' t tk') := by
  obtain ⟨f, fd, ps, h1, h2, h3, h4⟩ := h.ex
  exact de_callK h1 hr h2 h3 h4 ha hkw hg hall hks hdb he hpl
theorem de_m {C : Addr} {pl : Sem Bool} (h : Mt1 X.prog X.w X.K X.mg X.base C m k [] n 0 g S) (hr : Room k X.A) (ho : DenE X o ta) (ha : DenA X (e :: es) t)
    (hst : starEach (e :: es) X.env = (false, eval e X.env) :: starEach es X.env := by rfl) (hpl : (backTo pos (starEach es X.env)).any (·.1) = false := by rfl)
    (ht : eval (.Call (.Attribute o m apos) (e :: es) [] pos) X.env = (do
        let ov ← eval o X.env
        standAt apos.atName
        let (f, first) ← holding [ov] (getMethod ov m pl)
        callWith pos f first (backTo pos (starEach (e :: es) X.env)) (backToKw pos (keywordEach [] X.env))) := by rfl) :
    DenE X (.Call (.Attribute o m apos) (e :: es) [] pos) (aMeth C m S g n 0 ta t aNil) := by
  obtain ⟨f, fd, ps, h1, h2, h3, h4⟩ := h.ex
  exact de_meth (pl := pl) h2 h3 h1 hr h4 ho ha hst hpl ht
theorem de_m0 {C : Addr} {pl : Sem Bool} (h : Mt1 X.prog X.w X.K X.mg X.base C m k [] 1 0 g S) (hr : Room k X.A) (ho : DenE X o ta)
    (ht : eval (.Call (.Attribute o m apos) [] [] pos) X.env = (do
        let ov ← eval o X.env
        standAt apos.atName
        let (f, first) ← holding [ov] (getMethod ov m pl)
        callWith pos f first (backTo pos (starEach [] X.env)) (backToKw pos (keywordEach [] X.env))) := by rfl) :
    DenE X (.Call (.Attribute o m apos) [] [] pos) (aMeth C m S g 1 0 ta aNil aNil) := by
  obtain ⟨f, fd, ps, h1, h2, h3, h4⟩ := h.ex
  exact de_meth0 (pl := pl) h2 h3 h1 hr h4 ho ht
theorem de_k {C : Addr} {kws : List Keyword} {ks : List Str} {n2 : Nat} (mt : Bool) (h : Mk1 X.prog X.w X.K X.mg X.base x C k ks n n2 g S) (hr : Room (k + 1) X.A) (ha : DenA X (e :: es) t) (hkw : DenK X kws tk')
    (hg : Gl X x := by rfl) (hall : (backToKw pos (keywordEach kws X.env)).all (·.1.isSome) = true := by rfl) (hks : (backToKw pos (keywordEach kws X.env)).filterMap (·.1) = ks := by rfl)
    (hdb : (x == ("__debug__" : Str)) = false := by decide) (he : starEach (e :: es) X.env = (false, eval e X.env) :: starEach es X.env := by rfl)
    (hpl : ((backTo pos (starEach (e :: es) X.env)).any (·.1) || (backToKw pos (keywordEach kws X.env)).any (·.1.isNone)) = false := by rfl) :
    DenE X (.Call (.Name x p) (e :: es) kws pos) (aMk mt C S g n n2 t tk') := by
  obtain ⟨f, fd, ps, h1, h2, h3, h4⟩ := h.ex
  exact de_make mt h2 h1 hr h3 h4 ha hkw hg hall hks hdb he hpl
end
/-- every parameter is given by its place -/
theorem kb_plain {K : PySem.W.Frag} {fd : FuncData} {ps : List Str} (n : Nat) (hn : ps.length = n) (h : ∀ (s : Shared) (us : List Value), us.length = ps.length → BindsTo s fd ⟨us, []⟩ (ps.zip us)) : KB K fd ps [] n 0 (fun ds _ => ds) :=
  ⟨fun vs _ => vs, fun us _ => us, fun s us ws _ h1 h2 => h s us (by rw [hn]; exact h1), fun _ _ _ _ _ _ r _ => r, fun _ _ _ _ _ _ _ _ d _ => d⟩
theorem fn1_plain {P : Program} {w : World} {K : PySem.W.Frag} {mg : Str → Option Value} {base : Heap} {x nm qual : Str} {params : Arguments} {body : List Stmt} {scope : Scope} {k n : Nat} {f : Addr} {fd : FuncData} {ps : List Str} {S : ASp} (G : FnOk P w K mg base (L2.CX P w) k f fd ps (spOf K S)) (Fd : FunD K nm qual params body scope [] [] f fd) (hm : mg x = some (.ref f)) (hn : ps.length = n)
    (h : ∀ (kV doc pm : Value) (an : Option Addr) (cdv ct : Value) (us : List Value), us.length = ps.length → bindArgs (PySem.W.fnOf nm qual params body scope .none kV doc pm an cdv ct) ⟨us, []⟩ = pure (ps.zip us)) : Fn1 P w K mg base x k [] n 0 (fun ds _ => ds) S :=
  ⟨f, fd, ps, G, hm, Fd.kp, kb_plain n hn fun s us hl => Fd.bindsA h s us hl⟩
theorem mt1_plain {P : Program} {w : World} {K : PySem.W.Frag} {mg : Str → Option Value} {base : Heap} {C : Addr} {x nm qual : Str} {params : Arguments} {body : List Stmt} {scope : Scope} {k n : Nat} {f : Addr} {fd : FuncData} {ps : List Str} {S : ASp} (G : FnOk P w K mg base (L2.CX P w) k f fd ps (spOf K S)) (Fd : FunD K nm qual params body scope [] [] f fd) (c : Cls K C) (hm : Meth K C x f) (hn : ps.length = n)
    (h : ∀ (kV doc pm : Value) (an : Option Addr) (cdv ct : Value) (us : List Value), us.length = ps.length → bindArgs (PySem.W.fnOf nm qual params body scope .none kV doc pm an cdv ct) ⟨us, []⟩ = pure (ps.zip us)) : Mt1 P w K mg base C x k [] n 0 (fun ds _ => ds) S :=
  ⟨f, fd, ps, G, c, hm, kb_plain n hn fun s us hl => Fd.bindsA h s us hl⟩

/-! ### readings, step by step -/
section
variable {ρ : Rho} {M : Mem} {P : AK} {EX : XKA} {k : KE} {t u : AS} {ta tb tc : AE} {r : A2} {PB : Bool → Mem → Prop} {PL : List D → Mem → Prop} {PO' : Option Int → Mem → Prop} {PR : Rho → Mem → Prop}
theorem aSeq_r (h : t ρ M { k with nx := fun ρ' M' => u ρ' M' k }) : aSeq t u ρ M k := h
theorem aNext_r (h : k.nx ρ M) : aNext ρ M k := h
theorem aRet_r (h : ta ρ M k.rt (fun x M' => k.ex x ρ M')) : aRet ta ρ M k := h
theorem aRetN_r (h : k.rt .non M) : aRetN ρ M k := h
theorem aDrop_r (h : ta ρ M (fun _ M' => k.nx ρ M') (fun x M' => k.ex x ρ M')) : aDrop ta ρ M k := h
theorem aIfS_r {c : AT} (h : c ρ M (fun b M1 => (b = true → t ρ M1 k) ∧ (b = false → u ρ M1 k)) (fun x M' => k.ex x ρ M')) : aIfS c t u ρ M k := h
theorem aAsg_r {g : AG} (h : ta ρ M (fun d M' => g d ρ M' k.nx) (fun x M' => k.ex x ρ M')) : aAsg ta g ρ M k := h
theorem aBin_r (h : ta ρ M (fun x M1 => tb ρ M1 (fun y M2 => r x y M2 P) EX) EX) : aBin r ta tb ρ M P EX := h
theorem aChain_r {r' : A2} (h : ta ρ M (fun x M1 => tb ρ M1 (fun y M2 => r x y M2 fun z M3 => ∃ k, z = .bl k ∧ (k = true → tc ρ M3 (fun w M4 => r' y w M4 P) EX) ∧ (k = false → P (.bl false) M3)) EX) EX) : aChain r r' ta tb tc ρ M P EX := h
theorem aUn_r {r : D → Mem → AK → Prop} (h : ta ρ M (fun x M1 => r x M1 P) EX) : aUn r ta ρ M P EX := h
theorem aB_r' (h : ta ρ M (fun d M' => ∃ k, d = .bl k ∧ PB k M') EX) : aB ta ρ M PB EX := h
theorem aTru_r (h : ta ρ M (fun d M1 => ∃ b, TruA M1 d b ∧ PB b M1) EX) : aTru ta ρ M PB EX := h
theorem aAnd_r {c d : AT} (h : c ρ M (fun b M1 => (b = true → d ρ M1 PB EX) ∧ (b = false → PB false M1)) EX) : aAnd c d ρ M PB EX := h
theorem aOr_r {c d : AT} (h : c ρ M (fun b M1 => (b = true → PB true M1) ∧ (b = false → d ρ M1 PB EX)) EX) : aOr c d ρ M PB EX := h
theorem aNot_r {c : AT} (h : c ρ M (fun b M1 => PB (!b) M1) EX) : aNot c ρ M PB EX := h
theorem aAndV_r (h : ta ρ M (fun x M1 => ∃ c, x = .bl c ∧ (c = true → tb ρ M1 P EX) ∧ (c = false → P (.bl false) M1)) EX) : aAndV ta tb ρ M P EX := h
theorem aOrV_r (h : ta ρ M (fun x M1 => ∃ c, x = .bl c ∧ (c = true → P (.bl true) M1) ∧ (c = false → tb ρ M1 P EX)) EX) : aOrV ta tb ρ M P EX := h
theorem aNotV_r (h : ta ρ M (fun x M1 => ∃ c, x = .bl c ∧ P (.bl (!c)) M1) EX) : aNotV ta ρ M P EX := h
theorem aIf_r {c : AT} (h : c ρ M (fun b M1 => (b = true → ta ρ M1 P EX) ∧ (b = false → tb ρ M1 P EX)) EX) : aIf c ta tb ρ M P EX := h
theorem aTup_r {l : AA} (h : l ρ M (fun ds M1 => ds.length ≤ 100000 ∧ P (.tup ds) M1) EX) : aTup l ρ M P EX := h
theorem aLst_r {l : AA} (h : l ρ M (fun ds M1 => ds.length ≤ 100000 ∧ P (.lst ds) M1) EX) : aLst l ρ M P EX := h
theorem aLstM_r {l : AA} (h : l ρ M (fun ds M1 => ds.length ≤ 100000 ∧ ∀ q, q ∉ dom M1 → P (.ref q) (M1 ++ [(q, .lst ds)])) EX) : aLstM l ρ M P EX := h
theorem aNil_r (h : PL [] M) : aNil ρ M PL EX := h
theorem aCons_r {l : AA} (h : ta ρ M (fun x M1 => l ρ M1 (fun xs M2 => PL (x :: xs) M2) EX) EX) : aCons ta l ρ M PL EX := h
theorem aCall_r {S : ASp} {g : List D → List D → List D} {n : Nat} {l : AA} (h : l ρ M (fun ds M1 => ds.length = n ∧ CallM S (g ds []) M1 P EX) EX) : aCall S g n l ρ M P EX := h
theorem aCallK_r {S : ASp} {g : List D → List D → List D} {n m : Nat} {l l2 : AA} (h : l ρ M (fun ds M1 => l2 ρ M1 (fun es M2 => ds.length = n ∧ es.length = m ∧ CallM S (g ds es) M2 P EX) EX) EX) : aCallK S g n m l l2 ρ M P EX := h
theorem aMeth_r {C : Addr} {m : Str} {S : ASp} {g : List D → List D → List D} {n n2 : Nat} {l l2 : AA} (h : ta ρ M (fun d M0 => (∃ fs, InsA M0 d C fs ∧ fs.lookup m = none) ∧ l ρ M0 (fun ds M1 => l2 ρ M1 (fun es M2 => (d :: ds).length = n ∧ es.length = n2 ∧ CallM S (g (d :: ds) es) M2 P EX) EX) EX) EX) : aMeth C m S g n n2 ta l l2 ρ M P EX := h
theorem aMk_r {mt : Bool} {C : Addr} {S : ASp} {g : List D → List D → List D} {n n2 : Nat} {l l2 : AA} (h : l ρ M (fun ds M1 => l2 ρ M1 (fun es M2 => ds.length = n ∧ es.length = n2 ∧ ∀ x, x ∉ dom M2 →
  CallM S (.ref x :: g ds es) ((x, MO.ins C []) :: M2) (fun v M3 => v = .non ∧ (if mt = true then P (.ref x) M3 else ∃ fs Mr, Split M3 [(x, MO.ins C fs)] Mr ∧ P (.obj C fs) Mr)) (fun e M3 => ∃ Mr, (∃ o, Split M3 [(x, o)] Mr) ∧ EX e Mr)) EX) EX) : aMk mt C S g n n2 l l2 ρ M P EX := h
theorem aFld_r {C : Addr} {f : Str} (h : ta ρ M (fun d M1 => ∃ fs v, InsA M1 d C fs ∧ fs.lookup f = some v ∧ P v M1) EX) : aFld C f ta ρ M P EX := h
theorem aSetF_r {C : Addr} {fl : Str} (h : tb ρ M (fun y M1 => ta ρ M1 (fun d M2 => ∃ a fs M3, d = .ref a ∧ PutM M2 a (.ins C fs) (.ins C (putD fl y fs)) M3 ∧ fs.length < 1000 ∧ k.nx ρ M3) (fun x M' => k.ex x ρ M')) (fun x M' => k.ex x ρ M')) : aSetF C fl ta tb ρ M k := h
theorem aRaise_r {x : Exc} (h : k.ex x ρ M) : aRaise x ρ M k := h
theorem aCB_r {c : AC} {l : AA} (h : l ρ M (fun ds M1 => c ds M1 P) EX) : aCB c l ρ M P EX := h
theorem aBM_r {T : String} {c : AM} {l : AA} (h : ta ρ M (fun x M1 => RcA M1 T x ∧ l ρ M1 (fun ds M2 => c x ds M2 P) EX) EX) : aBM T c ta l ρ M P EX := h
theorem aSl_r {lo hi : AO} (h : ta ρ M (fun x M1 => lo ρ M1 (fun l M2 => hi ρ M2 (fun u M3 => SlA x l u M3 P) EX) EX) EX) : aSl ta lo hi ρ M P EX := h
theorem aNoPart_r (h : PO' none M) : aNoPart ρ M PO' EX := h
theorem aPart_r (h : ta ρ M (fun d M1 => ∃ i, d = .int i ∧ PO' (some i) M1) EX) : aPart ta ρ M PO' EX := h
theorem aFor_r {ai : AI} {g : AG} (h : ai ρ M (fun xs M1 => LoopA g t k xs ρ M1) (fun x M' => k.ex x ρ M')) : aFor ai g t ρ M k := h
theorem iLstA_r (h : ta ρ M (fun d M1 => ∃ l, (d = .lst l ∨ d = .lsk l) ∧ PL l M1) EX) : iLstA ta ρ M PL EX := h
theorem iTupA_r (h : ta ρ M (fun d M1 => ∃ l, d = .tup l ∧ PL l M1) EX) : iTupA ta ρ M PL EX := h
theorem iRngA1_r {l : AA} (h : l ρ M (fun ds M1 => ∃ j : Int, ds = [.int j] ∧ -(2 ^ 62) ≤ j ∧ j < 2 ^ 62 ∧ PL (rngD 0 j.toNat) M1) EX) : iRngA1 l ρ M PL EX := h
theorem iRngA2_r {l : AA} (h : l ρ M (fun ds M1 => ∃ i j : Int, ds = [.int i, .int j] ∧ (-(2 ^ 62) ≤ i ∧ i < 2 ^ 62 ∧ -(2 ^ 62) ≤ j ∧ j < 2 ^ 62) ∧ PL (rngD i (j - i).toNat) M1) EX) : iRngA2 l ρ M PL EX := h
theorem aLcL_r {vs : List Nat} {ai : AI} {g : AG} {tt : AT} {R : List D → Mem → AK → Prop} (h : ai ρ M (fun xs M1 => LcA vs g tt ta xs ρ M1 (fun acc M2 => R acc M2 P)) EX) : aLcL vs ai g tt ta R ρ M P EX := h
theorem aFrz_r (h : ta ρ M (fun d M1 => FrzA d M1 P) EX) : aFrz ta ρ M P EX := h
theorem aAug_r {i : Nat} {x : D} (e : gS ρ i = some x) (h : ta ρ M (fun y M1 => r x y M1 (fun z M2 => k.nx (sS ρ i z) M2)) (fun x M' => k.ex x ρ M')) : aAug i r ta ρ M k := ⟨x, e, h⟩
theorem gSetL_r {to ti : AE} {d : D} (h : to ρ M (fun o M1 => ti ρ M1 (fun i M2 => ∃ a l j k M3, o = .ref a ∧ i = .int j ∧ ixN l.length j = some k ∧ PutM M2 a (.lst l) (.lst (l.set k d)) M3 ∧ PR ρ M3) noX) noX) : gSetL to ti d ρ M PR := h
theorem gTupA_r {n : Nat} {gs : AGs} {ds : List D} (hl : ds.length = n) (h : gs ds ρ M PR) : gTupA n gs (.tup ds) ρ M PR := ⟨ds, rfl, hl, h⟩
theorem gConsA_r {g : AG} {gs : AGs} {d : D} {ds : List D} (h : g d ρ M (fun ρ' M' => gs ds ρ' M' PR)) : gConsA g gs (d :: ds) ρ M PR := ⟨d, ds, rfl, h⟩
theorem gNilA_r (h : PR ρ M) : gNilA [] ρ M PR := ⟨rfl, h⟩
variable {d : D} {a0 a1 a2 a3 a4 a5 a6 a7 a8 a9 a10 a11 a12 a13 a14 a15 a16 a17 a18 a19 : Option D} {rr : Rho}
theorem gN0 (h : PR (some d :: rr) M) : gNameA 0 d (a0 :: rr) M PR := h
theorem gN1 (h : PR (a0 :: some d :: rr) M) : gNameA 1 d (a0 :: a1 :: rr) M PR := h
theorem gN2 (h : PR (a0 :: a1 :: some d :: rr) M) : gNameA 2 d (a0 :: a1 :: a2 :: rr) M PR := h
theorem gN3 (h : PR (a0 :: a1 :: a2 :: some d :: rr) M) : gNameA 3 d (a0 :: a1 :: a2 :: a3 :: rr) M PR := h
theorem gN4 (h : PR (a0 :: a1 :: a2 :: a3 :: some d :: rr) M) : gNameA 4 d (a0 :: a1 :: a2 :: a3 :: a4 :: rr) M PR := h
theorem gN5 (h : PR (a0 :: a1 :: a2 :: a3 :: a4 :: some d :: rr) M) : gNameA 5 d (a0 :: a1 :: a2 :: a3 :: a4 :: a5 :: rr) M PR := h
theorem gN6 (h : PR (a0 :: a1 :: a2 :: a3 :: a4 :: a5 :: some d :: rr) M) : gNameA 6 d (a0 :: a1 :: a2 :: a3 :: a4 :: a5 :: a6 :: rr) M PR := h
theorem gN7 (h : PR (a0 :: a1 :: a2 :: a3 :: a4 :: a5 :: a6 :: some d :: rr) M) : gNameA 7 d (a0 :: a1 :: a2 :: a3 :: a4 :: a5 :: a6 :: a7 :: rr) M PR := h
theorem gN8 (h : PR (a0 :: a1 :: a2 :: a3 :: a4 :: a5 :: a6 :: a7 :: some d :: rr) M) : gNameA 8 d (a0 :: a1 :: a2 :: a3 :: a4 :: a5 :: a6 :: a7 :: a8 :: rr) M PR := h
theorem gN9 (h : PR (a0 :: a1 :: a2 :: a3 :: a4 :: a5 :: a6 :: a7 :: a8 :: some d :: rr) M) : gNameA 9 d (a0 :: a1 :: a2 :: a3 :: a4 :: a5 :: a6 :: a7 :: a8 :: a9 :: rr) M PR := h
theorem gN10 (h : PR (a0 :: a1 :: a2 :: a3 :: a4 :: a5 :: a6 :: a7 :: a8 :: a9 :: some d :: rr) M) : gNameA 10 d (a0 :: a1 :: a2 :: a3 :: a4 :: a5 :: a6 :: a7 :: a8 :: a9 :: a10 :: rr) M PR := h
theorem gN11 (h : PR (a0 :: a1 :: a2 :: a3 :: a4 :: a5 :: a6 :: a7 :: a8 :: a9 :: a10 :: some d :: rr) M) : gNameA 11 d (a0 :: a1 :: a2 :: a3 :: a4 :: a5 :: a6 :: a7 :: a8 :: a9 :: a10 :: a11 :: rr) M PR := h
theorem gN12 (h : PR (a0 :: a1 :: a2 :: a3 :: a4 :: a5 :: a6 :: a7 :: a8 :: a9 :: a10 :: a11 :: some d :: rr) M) : gNameA 12 d (a0 :: a1 :: a2 :: a3 :: a4 :: a5 :: a6 :: a7 :: a8 :: a9 :: a10 :: a11 :: a12 :: rr) M PR := h
theorem gN13 (h : PR (a0 :: a1 :: a2 :: a3 :: a4 :: a5 :: a6 :: a7 :: a8 :: a9 :: a10 :: a11 :: a12 :: some d :: rr) M) : gNameA 13 d (a0 :: a1 :: a2 :: a3 :: a4 :: a5 :: a6 :: a7 :: a8 :: a9 :: a10 :: a11 :: a12 :: a13 :: rr) M PR := h
theorem gN14 (h : PR (a0 :: a1 :: a2 :: a3 :: a4 :: a5 :: a6 :: a7 :: a8 :: a9 :: a10 :: a11 :: a12 :: a13 :: some d :: rr) M) : gNameA 14 d (a0 :: a1 :: a2 :: a3 :: a4 :: a5 :: a6 :: a7 :: a8 :: a9 :: a10 :: a11 :: a12 :: a13 :: a14 :: rr) M PR := h
theorem gN15 (h : PR (a0 :: a1 :: a2 :: a3 :: a4 :: a5 :: a6 :: a7 :: a8 :: a9 :: a10 :: a11 :: a12 :: a13 :: a14 :: some d :: rr) M) : gNameA 15 d (a0 :: a1 :: a2 :: a3 :: a4 :: a5 :: a6 :: a7 :: a8 :: a9 :: a10 :: a11 :: a12 :: a13 :: a14 :: a15 :: rr) M PR := h
theorem gN16 (h : PR (a0 :: a1 :: a2 :: a3 :: a4 :: a5 :: a6 :: a7 :: a8 :: a9 :: a10 :: a11 :: a12 :: a13 :: a14 :: a15 :: some d :: rr) M) : gNameA 16 d (a0 :: a1 :: a2 :: a3 :: a4 :: a5 :: a6 :: a7 :: a8 :: a9 :: a10 :: a11 :: a12 :: a13 :: a14 :: a15 :: a16 :: rr) M PR := h
theorem gN17 (h : PR (a0 :: a1 :: a2 :: a3 :: a4 :: a5 :: a6 :: a7 :: a8 :: a9 :: a10 :: a11 :: a12 :: a13 :: a14 :: a15 :: a16 :: some d :: rr) M) : gNameA 17 d (a0 :: a1 :: a2 :: a3 :: a4 :: a5 :: a6 :: a7 :: a8 :: a9 :: a10 :: a11 :: a12 :: a13 :: a14 :: a15 :: a16 :: a17 :: rr) M PR := h
theorem gN18 (h : PR (a0 :: a1 :: a2 :: a3 :: a4 :: a5 :: a6 :: a7 :: a8 :: a9 :: a10 :: a11 :: a12 :: a13 :: a14 :: a15 :: a16 :: a17 :: some d :: rr) M) : gNameA 18 d (a0 :: a1 :: a2 :: a3 :: a4 :: a5 :: a6 :: a7 :: a8 :: a9 :: a10 :: a11 :: a12 :: a13 :: a14 :: a15 :: a16 :: a17 :: a18 :: rr) M PR := h
end
/-- a call that sees one object of memory -/
theorem callM_one {S : ASp} {ds : List D} {M Mr : Mem} {p : Addr} {o : MO} {P : AK} {EX : XKA} (hs : Split M [(p, o)] Mr) (h : S ds [(p, o)] (fun d Mc => P d (Mc ++ Mr)) (fun x Mc => EX x (Mc ++ Mr))) : CallM S ds M P EX := ⟨_, _, hs, h⟩
theorem callM_none {S : ASp} {ds : List D} {M : Mem} {P : AK} {EX : XKA} (h : S ds [] (fun d Mc => P d (Mc ++ M)) (fun x Mc => EX x (Mc ++ M))) : CallM S ds M P EX := ⟨[], M, Split.none, h⟩
theorem split_head {p : Addr × MO} {M : Mem} : Split (p :: M) [p] M := List.Perm.refl _
theorem split_2 {p q : Addr × MO} {M : Mem} : Split (q :: p :: M) [p] (q :: M) := List.Perm.swap q p M
theorem split_3 {p q r : Addr × MO} {M : Mem} : Split (q :: r :: p :: M) [p] (q :: r :: M) := (List.Perm.swap q p (r :: M)).trans ((List.Perm.swap r p M).cons q)
end Ab
set_option maxRecDepth 100000
set_option maxHeartbeats 2000000
/-! Ab10: walks of texts, enumerate, zip. -/
namespace Ab
open PySem L2 PyProof.Rows
section
variable {X : Cx} {tg e e2 : Expr} {te : AE} {t : AA} {p pos tpos : Pos} {elts : List Expr} {kk : Nat}
theorem signs_get {z : Str} {i : Nat} {d : D} (h : (signs z)[i]? = some d) : ∃ c, z.cps[i]? = some c ∧ d = .str ⟨#[c]⟩ := by
  unfold signs at h
  rw [List.getElem?_map] at h
  cases q : z.cps.toList[i]? with
  | none => rw [q] at h; cases h
  | some c =>
    rw [q] at h
    cases h
    exact ⟨c, by simpa using q, rfl⟩
theorem signs_length {z : Str} : (signs z).length = z.length := by simp [signs, Str.length]
theorem di_str (he : DenE X e te) : DenI X tg e (iStrA te) :=
  ⟨fun F ρ M P EX W σ H R S tk h hP hX => fun pins s I => (pi_str (pe_ew (X := X))).run pins s σ H R I
    (he.run F ρ M _ EX W σ H _ S tk h (fun v d M1 H1 s1 m1 dv q => by
      obtain ⟨z, rfl, q⟩ := q
      cases dv
      refine ⟨z, rfl, hP _ _ M1 H1 s1 m1 (fun F' H' M' s' f' m' => ⟨fun i d e => ?_, by show z.cps.size ≤ _; rw [signs_length]; exact Nat.le_refl _⟩) q⟩
      obtain ⟨c, e1, rfl⟩ := signs_get e
      refine ⟨(Array.getElem?_eq_some_iff.mp e1).1, fun x H2 y => ?_⟩
      obtain ⟨rfl, c', e2, rfl⟩ := y
      rw [e1] at e2
      cases e2
      exact ⟨Step.refl _ _, m', .str _⟩) hX)⟩
/-- (0, x), (1, y), .. -/
def enumD (l : List D) : List D := l.zipIdx.map fun p => .tup [.int (p.2 : Int), p.1]
theorem enumD_length {l : List D} : (enumD l).length = l.length := by simp [enumD]
theorem enumD_get {l : List D} {i : Nat} {d : D} (h : (enumD l)[i]? = some d) : ∃ x, l[i]? = some x ∧ d = .tup [.int (i : Int), x] := by
  unfold enumD at h
  rw [List.getElem?_map, List.getElem?_zipIdx] at h
  cases q : l[i]? with
  | none => rw [q] at h; cases h
  | some x =>
    rw [q] at h
    simp at h
    exact ⟨x, rfl, h.symm⟩
def iEnumA (t : AA) : AI := fun ρ M P EX => t ρ M (fun ds M1 => ∃ d l, ds = [d] ∧ (d = .lst l ∨ d = .lsk l) ∧ P (enumD l) M1) EX
theorem di_enum (hm : X.mg "enumerate" = none) (ha : DenA X [e] t) (hg : Gl X "enumerate" := by rfl) (hs : starEach [e] X.env = [(false, eval e X.env)] := by rfl) : DenI X (.Tuple elts kk tpos) (.Call (.Name "enumerate" p) [e] [] pos) (iEnumA t) :=
  ⟨fun F ρ M P EX W σ H R S tk h hP hX => fun pins s I => (pi_enum hg hm (pa_gw (X := X)) hs).run pins s σ H R I
    (ha.run F ρ M _ EX W σ H _ S tk h (fun vs ds M1 H1 s1 m1 dv q => by
      obtain ⟨d, l, rfl, hd, q⟩ := q
      cases dv with
      | cons d1 d2 =>
        cases d2
        have key : ∀ {a : Addr} {xs : List V}, (∀ F' H' M', StepX F H1 M1 H' M' → FrGo H1 F F' → SqL X.K H' a xs ∧ DVs X.K H' (um F' M') xs l) → ItOk X (Ite X.K a) (enumD l) H1 F M1 := fun {a xs} hh F' H' M' s' f' m' => by
          obtain ⟨h1, h2⟩ := hh F' H' M' s' f'
          refine ⟨fun i d e => ?_, ⟨xs, h1, by rw [enumD_length]; exact Nat.le_of_eq h2.length⟩⟩
          obtain ⟨x, ex, rfl⟩ := enumD_get e
          obtain ⟨v, ev, dx⟩ := h2.get ex
          refine ⟨⟨xs, v, h1, ev⟩, fun y H2 z => ?_⟩
          obtain ⟨T, w, rfl, hT, rfl, hw⟩ := z
          have := hw xs h1
          rw [ev] at this; cases this
          exact new_tup m' hT (.cons (.int _) (DVs.one dx))
        rcases hd with rfl | rfl
        · cases d1 with
          | lst h hn t => exact ⟨_, _, rfl, SqL.of h, hP _ _ M1 H1 s1 m1 (key fun F' H' M' s' f' => ⟨SqL.of (s'.keepU h hn), t.step2X s' f'⟩) q⟩
        · cases d1 with
          | lsk h hn t => exact ⟨_, _, rfl, .inl h, hP _ _ M1 H1 s1 m1 (key fun F' H' M' s' f' => ⟨.inl (s'.rd h hn), t.step2X s' f'⟩) q⟩
          | lskK h t => exact ⟨_, _, rfl, h H1, hP _ _ M1 H1 s1 m1 (key fun F' H' M' s' f' => ⟨h H', t.step2X s' f'⟩) q⟩) hX)⟩
/-- pairs, as far as both go -/
def zipD (l r : List D) : List D := (l.zip r).map fun p => .tup [p.1, p.2]
theorem zipD_length {l r : List D} : (zipD l r).length = min l.length r.length := by simp [zipD]
theorem zipD_get {l r : List D} {i : Nat} {d : D} (h : (zipD l r)[i]? = some d) : ∃ x y, l[i]? = some x ∧ r[i]? = some y ∧ d = .tup [x, y] := by
  unfold zipD at h
  rw [List.getElem?_map] at h
  cases q : (l.zip r)[i]? with
  | none => rw [q] at h; cases h
  | some xy =>
    rw [q] at h
    cases h
    rw [List.getElem?_zip_eq_some] at q
    exact ⟨_, _, q.1, q.2, rfl⟩
/-- both of one kind: tuples, or lists of data -/
def iZipD (t : AA) : AI := fun ρ M P EX => t ρ M (fun ds M1 => ∃ x y l r, ds = [x, y] ∧ ((x = .tup l ∧ y = .tup r) ∨ (x = .lst l ∧ y = .lst r)) ∧ P (zipD l r) M1) EX
theorem DV.seqU {K : PySem.W.Frag} {H : Hp} {F : List Addr} {M : Mem} {v : V} {l : List D} (h : DV K H (um F M) v (.tup l)) : ∃ a xs, v = .ref a ∧ SqT K H a xs ∧ ∀ F' H' M', StepX F H M H' M' → FrGo H F F' → SqT K H' a xs ∧ DVs K H' (um F' M') xs l := by
  cases h with
  | tup h hn t => exact ⟨_, _, rfl, .inl h, fun F' H' M' s' f' => ⟨.inl (s'.rd h hn), t.step2X s' f'⟩⟩
  | tupK h t => exact ⟨_, _, rfl, h H, fun F' H' M' s' f' => ⟨h H', t.step2X s' f'⟩⟩
theorem DV.seqL {K : PySem.W.Frag} {H : Hp} {F : List Addr} {M : Mem} {v : V} {l : List D} (h : DV K H (um F M) v (.lst l)) : ∃ a xs, v = .ref a ∧ SqL K H a xs ∧ ∀ F' H' M', StepX F H M H' M' → FrGo H F F' → SqL K H' a xs ∧ DVs K H' (um F' M') xs l := by
  cases h with
  | lst h hn t => exact ⟨_, _, rfl, SqL.of h, fun F' H' M' s' f' => ⟨SqL.of (s'.keepU h hn), t.step2X s' f'⟩⟩
theorem di_zip (hm : X.mg "zip" = none) (ha : DenA X [e, e2] t) (hg : Gl X "zip" := by rfl) (hs : starEach [e, e2] X.env = (false, eval e X.env) :: starEach [e2] X.env := by rfl) (hpl : (backTo pos (starEach [e2] X.env)).any (·.1) = false := by rfl) : DenI X (.Tuple elts kk tpos) (.Call (.Name "zip" p) [e, e2] [] pos) (iZipD t) :=
  ⟨fun F ρ M P EX W σ H R S tk h hP hX => fun pins s I => (RZ.pi_zipA hg hm (pa_gw (X := X)) hs hpl).run pins s σ H R I
    (ha.run F ρ M _ EX W σ H _ S tk h (fun vs ds M1 H1 s1 m1 dv q => by
      obtain ⟨x, y, l, r, rfl, hd, q⟩ := q
      cases dv with
      | cons d1 d2 =>
        cases d2 with
        | cons d2 d3 =>
          cases d3
          rcases hd with ⟨rfl, rfl⟩ | ⟨rfl, rfl⟩
          · obtain ⟨a, xs, rfl, ha, ka⟩ := d1.seqU
            obtain ⟨b, ys, rfl, hb, kb⟩ := d2.seqU
            refine ⟨a, b, xs, ys, rfl, Or.inr ⟨ha, hb, hP _ _ M1 H1 s1 m1 (fun F' H' M' s' f' m' => ?_) q⟩⟩
            obtain ⟨h1, h2⟩ := ka F' H' M' s' f'
            obtain ⟨h3, h4⟩ := kb F' H' M' s' f'
            refine ⟨fun i d e => ?_, ⟨xs, ys, h1, h3, by rw [zipD_length, h2.length, h4.length]; omega⟩⟩
            obtain ⟨x, y, ex, ey, rfl⟩ := zipD_get e
            obtain ⟨v, ev, dx⟩ := h2.get ex
            obtain ⟨w, ew, dy⟩ := h4.get ey
            refine ⟨⟨xs, ys, v, w, h1, h3, ev, ew⟩, fun z H2 zz => ?_⟩
            obtain ⟨T, v', w', rfl, hT, rfl, hv, hw⟩ := zz
            have e1 := hv xs h1
            have e2 := hw ys h3
            rw [ev] at e1; rw [ew] at e2
            cases e1; cases e2
            exact new_tup m' hT (.cons dx (DVs.one dy))
          · obtain ⟨a, xs, rfl, ha, ka⟩ := d1.seqL
            obtain ⟨b, ys, rfl, hb, kb⟩ := d2.seqL
            refine ⟨a, b, xs, ys, rfl, Or.inl ⟨ha, hb, hP _ _ M1 H1 s1 m1 (fun F' H' M' s' f' m' => ?_) q⟩⟩
            obtain ⟨h1, h2⟩ := ka F' H' M' s' f'
            obtain ⟨h3, h4⟩ := kb F' H' M' s' f'
            refine ⟨fun i d e => ?_, ⟨xs, ys, h1, h3, by rw [zipD_length, h2.length, h4.length]; omega⟩⟩
            obtain ⟨x, y, ex, ey, rfl⟩ := zipD_get e
            obtain ⟨v, ev, dx⟩ := h2.get ex
            obtain ⟨w, ew, dy⟩ := h4.get ey
            refine ⟨⟨xs, ys, v, w, h1, h3, ev, ew⟩, fun z H2 zz => ?_⟩
            obtain ⟨T, v', w', rfl, hT, rfl, hv, hw⟩ := zz
            have e1 := hv xs h1
            have e2 := hw ys h3
            rw [ev] at e1; rw [ew] at e2
            cases e1; cases e2
            exact new_tup m' hT (.cons dx (DVs.one dy))) hX)⟩
end
end Ab
set_option maxRecDepth 100000
set_option maxHeartbeats 2000000
/-! Ab11: the readings run by a tactic. -/
namespace Ab
open PySem L2 PyProof.Rows
section
variable {M : Mem} {P : AK} {EX : XKA} {d : D} {rr : Rho} {PR : Rho → Mem → Prop} {k : KE}
variable {a0 a1 a2 a3 a4 a5 a6 a7 a8 a9 a10 a11 a12 a13 a14 a15 a16 a17 a18 a19 a20 a21 a22 a23 : Option D}
theorem vN0 (h : P d M) : aVar 0 (some d :: rr) M P EX := ⟨d, rfl, h⟩
theorem vN1 (h : P d M) : aVar 1 (a0 :: some d :: rr) M P EX := ⟨d, rfl, h⟩
theorem vN2 (h : P d M) : aVar 2 (a0 :: a1 :: some d :: rr) M P EX := ⟨d, rfl, h⟩
theorem vN3 (h : P d M) : aVar 3 (a0 :: a1 :: a2 :: some d :: rr) M P EX := ⟨d, rfl, h⟩
theorem vN4 (h : P d M) : aVar 4 (a0 :: a1 :: a2 :: a3 :: some d :: rr) M P EX := ⟨d, rfl, h⟩
theorem vN5 (h : P d M) : aVar 5 (a0 :: a1 :: a2 :: a3 :: a4 :: some d :: rr) M P EX := ⟨d, rfl, h⟩
theorem vN6 (h : P d M) : aVar 6 (a0 :: a1 :: a2 :: a3 :: a4 :: a5 :: some d :: rr) M P EX := ⟨d, rfl, h⟩
theorem vN7 (h : P d M) : aVar 7 (a0 :: a1 :: a2 :: a3 :: a4 :: a5 :: a6 :: some d :: rr) M P EX := ⟨d, rfl, h⟩
theorem vN8 (h : P d M) : aVar 8 (a0 :: a1 :: a2 :: a3 :: a4 :: a5 :: a6 :: a7 :: some d :: rr) M P EX := ⟨d, rfl, h⟩
theorem vN9 (h : P d M) : aVar 9 (a0 :: a1 :: a2 :: a3 :: a4 :: a5 :: a6 :: a7 :: a8 :: some d :: rr) M P EX := ⟨d, rfl, h⟩
theorem vN10 (h : P d M) : aVar 10 (a0 :: a1 :: a2 :: a3 :: a4 :: a5 :: a6 :: a7 :: a8 :: a9 :: some d :: rr) M P EX := ⟨d, rfl, h⟩
theorem vN11 (h : P d M) : aVar 11 (a0 :: a1 :: a2 :: a3 :: a4 :: a5 :: a6 :: a7 :: a8 :: a9 :: a10 :: some d :: rr) M P EX := ⟨d, rfl, h⟩
theorem vN12 (h : P d M) : aVar 12 (a0 :: a1 :: a2 :: a3 :: a4 :: a5 :: a6 :: a7 :: a8 :: a9 :: a10 :: a11 :: some d :: rr) M P EX := ⟨d, rfl, h⟩
theorem vN13 (h : P d M) : aVar 13 (a0 :: a1 :: a2 :: a3 :: a4 :: a5 :: a6 :: a7 :: a8 :: a9 :: a10 :: a11 :: a12 :: some d :: rr) M P EX := ⟨d, rfl, h⟩
theorem vN14 (h : P d M) : aVar 14 (a0 :: a1 :: a2 :: a3 :: a4 :: a5 :: a6 :: a7 :: a8 :: a9 :: a10 :: a11 :: a12 :: a13 :: some d :: rr) M P EX := ⟨d, rfl, h⟩
theorem vN15 (h : P d M) : aVar 15 (a0 :: a1 :: a2 :: a3 :: a4 :: a5 :: a6 :: a7 :: a8 :: a9 :: a10 :: a11 :: a12 :: a13 :: a14 :: some d :: rr) M P EX := ⟨d, rfl, h⟩
theorem vN16 (h : P d M) : aVar 16 (a0 :: a1 :: a2 :: a3 :: a4 :: a5 :: a6 :: a7 :: a8 :: a9 :: a10 :: a11 :: a12 :: a13 :: a14 :: a15 :: some d :: rr) M P EX := ⟨d, rfl, h⟩
theorem vN17 (h : P d M) : aVar 17 (a0 :: a1 :: a2 :: a3 :: a4 :: a5 :: a6 :: a7 :: a8 :: a9 :: a10 :: a11 :: a12 :: a13 :: a14 :: a15 :: a16 :: some d :: rr) M P EX := ⟨d, rfl, h⟩
theorem vN18 (h : P d M) : aVar 18 (a0 :: a1 :: a2 :: a3 :: a4 :: a5 :: a6 :: a7 :: a8 :: a9 :: a10 :: a11 :: a12 :: a13 :: a14 :: a15 :: a16 :: a17 :: some d :: rr) M P EX := ⟨d, rfl, h⟩
theorem vN19 (h : P d M) : aVar 19 (a0 :: a1 :: a2 :: a3 :: a4 :: a5 :: a6 :: a7 :: a8 :: a9 :: a10 :: a11 :: a12 :: a13 :: a14 :: a15 :: a16 :: a17 :: a18 :: some d :: rr) M P EX := ⟨d, rfl, h⟩
theorem vN20 (h : P d M) : aVar 20 (a0 :: a1 :: a2 :: a3 :: a4 :: a5 :: a6 :: a7 :: a8 :: a9 :: a10 :: a11 :: a12 :: a13 :: a14 :: a15 :: a16 :: a17 :: a18 :: a19 :: some d :: rr) M P EX := ⟨d, rfl, h⟩
theorem vN21 (h : P d M) : aVar 21 (a0 :: a1 :: a2 :: a3 :: a4 :: a5 :: a6 :: a7 :: a8 :: a9 :: a10 :: a11 :: a12 :: a13 :: a14 :: a15 :: a16 :: a17 :: a18 :: a19 :: a20 :: some d :: rr) M P EX := ⟨d, rfl, h⟩
theorem vN22 (h : P d M) : aVar 22 (a0 :: a1 :: a2 :: a3 :: a4 :: a5 :: a6 :: a7 :: a8 :: a9 :: a10 :: a11 :: a12 :: a13 :: a14 :: a15 :: a16 :: a17 :: a18 :: a19 :: a20 :: a21 :: some d :: rr) M P EX := ⟨d, rfl, h⟩
theorem vN23 (h : P d M) : aVar 23 (a0 :: a1 :: a2 :: a3 :: a4 :: a5 :: a6 :: a7 :: a8 :: a9 :: a10 :: a11 :: a12 :: a13 :: a14 :: a15 :: a16 :: a17 :: a18 :: a19 :: a20 :: a21 :: a22 :: some d :: rr) M P EX := ⟨d, rfl, h⟩
theorem gN19 (h : PR (a0 :: a1 :: a2 :: a3 :: a4 :: a5 :: a6 :: a7 :: a8 :: a9 :: a10 :: a11 :: a12 :: a13 :: a14 :: a15 :: a16 :: a17 :: a18 :: some d :: rr) M) : gNameA 19 d (a0 :: a1 :: a2 :: a3 :: a4 :: a5 :: a6 :: a7 :: a8 :: a9 :: a10 :: a11 :: a12 :: a13 :: a14 :: a15 :: a16 :: a17 :: a18 :: a19 :: rr) M PR := h
theorem gN20 (h : PR (a0 :: a1 :: a2 :: a3 :: a4 :: a5 :: a6 :: a7 :: a8 :: a9 :: a10 :: a11 :: a12 :: a13 :: a14 :: a15 :: a16 :: a17 :: a18 :: a19 :: some d :: rr) M) : gNameA 20 d (a0 :: a1 :: a2 :: a3 :: a4 :: a5 :: a6 :: a7 :: a8 :: a9 :: a10 :: a11 :: a12 :: a13 :: a14 :: a15 :: a16 :: a17 :: a18 :: a19 :: a20 :: rr) M PR := h
theorem gN21 (h : PR (a0 :: a1 :: a2 :: a3 :: a4 :: a5 :: a6 :: a7 :: a8 :: a9 :: a10 :: a11 :: a12 :: a13 :: a14 :: a15 :: a16 :: a17 :: a18 :: a19 :: a20 :: some d :: rr) M) : gNameA 21 d (a0 :: a1 :: a2 :: a3 :: a4 :: a5 :: a6 :: a7 :: a8 :: a9 :: a10 :: a11 :: a12 :: a13 :: a14 :: a15 :: a16 :: a17 :: a18 :: a19 :: a20 :: a21 :: rr) M PR := h
theorem gN22 (h : PR (a0 :: a1 :: a2 :: a3 :: a4 :: a5 :: a6 :: a7 :: a8 :: a9 :: a10 :: a11 :: a12 :: a13 :: a14 :: a15 :: a16 :: a17 :: a18 :: a19 :: a20 :: a21 :: some d :: rr) M) : gNameA 22 d (a0 :: a1 :: a2 :: a3 :: a4 :: a5 :: a6 :: a7 :: a8 :: a9 :: a10 :: a11 :: a12 :: a13 :: a14 :: a15 :: a16 :: a17 :: a18 :: a19 :: a20 :: a21 :: a22 :: rr) M PR := h
theorem gN23 (h : PR (a0 :: a1 :: a2 :: a3 :: a4 :: a5 :: a6 :: a7 :: a8 :: a9 :: a10 :: a11 :: a12 :: a13 :: a14 :: a15 :: a16 :: a17 :: a18 :: a19 :: a20 :: a21 :: a22 :: some d :: rr) M) : gNameA 23 d (a0 :: a1 :: a2 :: a3 :: a4 :: a5 :: a6 :: a7 :: a8 :: a9 :: a10 :: a11 :: a12 :: a13 :: a14 :: a15 :: a16 :: a17 :: a18 :: a19 :: a20 :: a21 :: a22 :: a23 :: rr) M PR := h
theorem bl_r {b : Bool} {PB : Bool → Prop} (h : PB b) : ∃ k, D.bl b = .bl k ∧ PB k := ⟨b, rfl, h⟩
theorem il_fr {l : List D} {PL : List D → Prop} (h : PL l) : ∃ l', (D.lst l = .lst l' ∨ D.lst l = .lsk l') ∧ PL l' := ⟨l, Or.inl rfl, h⟩
theorem il_sk {l : List D} {PL : List D → Prop} (h : PL l) : ∃ l', (D.lsk l = .lst l' ∨ D.lsk l = .lsk l') ∧ PL l' := ⟨l, Or.inr rfl, h⟩
theorem it_r {l : List D} {PL : List D → Prop} (h : PL l) : ∃ l', D.tup l = .tup l' ∧ PL l' := ⟨l, rfl, h⟩
theorem pt_r {i : Int} {PO : Int → Prop} (h : PO i) : ∃ j, D.int i = .int j ∧ PO j := ⟨i, rfl, h⟩
theorem st_r {z : Str} {PL : Str → Prop} (h : PL z) : ∃ z', D.str z = .str z' ∧ PL z' := ⟨z, rfl, h⟩
theorem iStrA_r {ta : AE} {ρ : Rho} {PL : List D → Mem → Prop} (h : ta ρ M (fun d M1 => ∃ z, d = .str z ∧ PL (signs z) M1) EX) : iStrA ta ρ M PL EX := h
theorem iEnumA_r {t : AA} {ρ : Rho} {PL : List D → Mem → Prop} (h : t ρ M (fun ds M1 => ∃ d l, ds = [d] ∧ (d = .lst l ∨ d = .lsk l) ∧ PL (enumD l) M1) EX) : iEnumA t ρ M PL EX := h
theorem iZipD_r {t : AA} {ρ : Rho} {PL : List D → Mem → Prop} (h : t ρ M (fun ds M1 => ∃ x y l r, ds = [x, y] ∧ ((x = .tup l ∧ y = .tup r) ∨ (x = .lst l ∧ y = .lst r)) ∧ PL (zipD l r) M1) EX) : iZipD t ρ M PL EX := h
theorem en_fr {l : List D} {PL : List D → Prop} (h : PL l) : ∃ d l', [D.lst l] = [d] ∧ (d = .lst l' ∨ d = .lsk l') ∧ PL l' := ⟨_, l, rfl, Or.inl rfl, h⟩
theorem zi_tup {l r : List D} {PL : List D → List D → Prop} (h : PL l r) : ∃ x y l' r', [D.tup l, D.tup r] = [x, y] ∧ ((x = .tup l' ∧ y = .tup r') ∨ (x = .lst l' ∧ y = .lst r')) ∧ PL l' r' := ⟨_, _, l, r, rfl, Or.inl ⟨rfl, rfl⟩, h⟩
theorem zi_lst {l r : List D} {PL : List D → List D → Prop} (h : PL l r) : ∃ x y l' r', [D.lst l, D.lst r] = [x, y] ∧ ((x = .tup l' ∧ y = .tup r') ∨ (x = .lst l' ∧ y = .lst r')) ∧ PL l' r' := ⟨_, _, l, r, rfl, Or.inr ⟨rfl, rfl⟩, h⟩
theorem rg_r {j : Int} {PL : Int → Prop} (h1 : -(2 ^ 62) ≤ j) (h2 : j < 2 ^ 62) (h : PL j) : ∃ j' : Int, [D.int j] = [.int j'] ∧ -(2 ^ 62) ≤ j' ∧ j' < 2 ^ 62 ∧ PL j' := ⟨j, rfl, h1, h2, h⟩
theorem aYes_r {ρ : Rho} {PB : Bool → Mem → Prop} (h : PB true M) : aYes ρ M PB EX := h
theorem rFro_r {l : List D} (h : P (.lst l) M) : rFro l M P := h
theorem rMut_r {l : List D} (h : ∀ q, q ∉ dom M → P (.ref q) (M ++ [(q, .lst l)])) : rMut l M P := h
theorem aBreak_r {ρ : Rho} (h : k.bk ρ M) : aBreak ρ M k := h
theorem aCont_r {ρ : Rho} (h : k.ct ρ M) : aCont ρ M k := h
theorem NeA_r {x y : D} (h : EqA x y M (fun d M' => ∃ b, d = .bl b ∧ P (.bl (!b)) M')) : NeA x y M P := h
theorem NotInA_r {x y : D} (h : InA x y M (fun d M' => ∃ b, d = .bl b ∧ P (.bl (!b)) M')) : NotInA x y M P := h
theorem ite_r {b : Bool} {A B : Prop} (h1 : b = true → A) (h2 : b = false → B) : (b = true → A) ∧ (b = false → B) := ⟨h1, h2⟩
theorem ite_t {A B : Prop} (h1 : A) : (true = true → A) ∧ (true = false → B) := ⟨fun _ => h1, fun z => Bool.noConfusion z⟩
theorem ite_f {A B : Prop} (h1 : B) : (false = true → A) ∧ (false = false → B) := ⟨fun z => Bool.noConfusion z, fun _ => h1⟩
theorem len_r {ds : List D} {n : Nat} {A : Prop} (h1 : ds.length = n) (h : A) : ds.length = n ∧ A := ⟨h1, h⟩
end
section
variable {nx : Rho → Mem → Prop} {rt : AK} {bk ct : Rho → Mem → Prop} {ex : Exc → Rho → Mem → Prop} {ρ : Rho} {M : Mem} {d : D} {x : Exc}
theorem nx_mk (h : nx ρ M) : KE.nx ⟨nx, rt, bk, ct, ex⟩ ρ M := h
theorem rt_mk (h : rt d M) : KE.rt ⟨nx, rt, bk, ct, ex⟩ d M := h
theorem bk_mk (h : bk ρ M) : KE.bk ⟨nx, rt, bk, ct, ex⟩ ρ M := h
theorem ct_mk (h : ct ρ M) : KE.ct ⟨nx, rt, bk, ct, ex⟩ ρ M := h
theorem ex_mk (h : ex x ρ M) : KE.ex ⟨nx, rt, bk, ct, ex⟩ x ρ M := h
section
variable {P : AK} {EX : XKA} {p : Addr × MO}
theorem rk_0 (h : P d []) : (retK P EX).rt d [] := ⟨_, Less.refl, h⟩
theorem rk_1 (h : P d [p]) : (retK P EX).rt d [p] := ⟨_, Less.refl, h⟩
theorem rk_c {r : Mem} (h : P d [p]) : (retK P EX).rt d (p :: r) := ⟨_, (List.nil_sublist r).cons_cons p, h⟩
theorem rk_cc {q : Addr × MO} {r : Mem} (h : P d [p, q]) : (retK P EX).rt d (p :: q :: r) := ⟨_, ((List.nil_sublist r).cons_cons q).cons_cons p, h⟩
theorem rk_z {r : Mem} (h : P d []) : (retK P EX).rt d r := ⟨_, List.nil_sublist r, h⟩
theorem rk_n0 (h : P .non []) : (retK P EX).nx ρ [] := ⟨_, Less.refl, h⟩
theorem rk_n1 (h : P .non [p]) : (retK P EX).nx ρ [p] := ⟨_, Less.refl, h⟩
theorem rk_x0 (h : EX x []) : (retK P EX).ex x ρ [] := ⟨_, Less.refl, h⟩
theorem rk_x1 (h : EX x [p]) : (retK P EX).ex x ρ [p] := ⟨_, Less.refl, h⟩
end
theorem rk_r {P : AK} {EX : XKA} (h : ∃ M1, Less M1 M ∧ P d M1) : (retK P EX).rt d M := h
theorem rk_n {P : AK} {EX : XKA} (h : ∃ M1, Less M1 M ∧ P .non M1) : (retK P EX).nx ρ M := h
theorem rk_x {P : AK} {EX : XKA} (h : ∃ M1, Less M1 M ∧ EX x M1) : (retK P EX).ex x ρ M := h
theorem rfn_r {n : Nat} {A : Prop} (h : A) : n = n ∧ A := ⟨rfl, h⟩
theorem setL_r {a : Addr} {l l' : List D} {j : Int} {k : Nat} {d : D} {M M3 : Mem} {Q : Mem → Prop} (h2 : PutM M a (.lst l) (.lst l') M3) (h1 : ixN l.length j = some k) (h3 : l.set k d = l') (h : Q M3) :
    ∃ a' l' j' k' M3', D.ref a = .ref a' ∧ D.int j = .int j' ∧ ixN l'.length j' = some k' ∧ PutM M a' (.lst l') (.lst (l'.set k' d)) M3' ∧ Q M3' := by
  subst h3
  exact ⟨a, l, j, k, M3, rfl, rfl, h1, h2, h⟩
end
end Ab
set_option maxRecDepth 100000
set_option maxHeartbeats 2000000
/-! Ab12: comprehensions of two clauses. -/
namespace Ab
open PySem L2 PyProof.Rows
theorem StepX.step {H H1 H2 : Hp} {M M1 M2 : Mem} {F : List Addr} (a : StepX F H M H1 M1) (b : Step H1 M1 H2 M2) : StepX F H M H2 M2 :=
  ⟨fun c o hc h => b.keep c o (fun z => (a.new c z).elim hc fun y => by rw [h] at y; cases y) (a.keep c o hc h), fun c hc => by
    rcases b.new c hc with z | z
    · exact a.new c z
    · by_cases hm : c ∈ um F M
      · exact Or.inl hm
      · right
        cases q : H c with
        | none => rfl
        | some o => rw [a.keep c o hm q] at z; cases z⟩
theorem StepX.frz {H H1 : Hp} {M M1 : Mem} {F : List Addr} {D0 : Addr} {o : HO} (a : StepX (D0 :: F) H M H1 M1) : StepX (D0 :: F) H M (upd H1 D0 o) M1 :=
  ⟨fun c u hc h => by
    rw [upd_ne (fun z => hc (by rw [z]; exact List.mem_append_right _ List.mem_cons_self))]
    exact a.keep c u hc h, a.new⟩
section
variable {X : Cx}
/-- the turns of the second clause: acc0 is made so far -/
def LcI (vs : List Nat) (g : AG) (tt : AT) (te : AE) (xs : List D) (ρ : Rho) (acc0 : List D) (M : Mem) (P : List D → Mem → Prop) : Prop := ∃ J : Nat → List D → Mem → Prop, J 0 acc0 M ∧
  (∀ i d acc M', xs[i]? = some d → J i acc M' → g d (wipeA ρ vs) M' (fun ρ2 M2 => tt ρ2 M2 (fun b M3 => (b = true → te ρ2 M3 (fun y M4 => acc.length < 100000 ∧ J (i + 1) (acc ++ [y]) M4) noX) ∧ (b = false → J (i + 1) acc M3)) noX)) ∧
  ∀ acc M', J xs.length acc M' → P acc M'
def LcA2 (vs vs1 : List Nat) (g : AG) (tt : AT) (ai1 : AI) (g1 : AG) (tt1 : AT) (te : AE) (xs : List D) (ρ : Rho) (M : Mem) (P : List D → Mem → Prop) : Prop := ∃ J : Nat → List D → Mem → Prop, J 0 [] M ∧
  (∀ i d acc M', xs[i]? = some d → J i acc M' → g d (wipeA ρ vs) M' (fun ρ2 M2 => tt ρ2 M2 (fun b M3 => (b = true → ai1 ρ2 M3 (fun ys M4 => LcI vs1 g1 tt1 te ys ρ2 acc M4 (J (i + 1))) noX) ∧ (b = false → J (i + 1) acc M3)) noX)) ∧
  ∀ acc M', J xs.length acc M' → P acc M'
def aLc2L (vs vs1 : List Nat) (ai : AI) (g : AG) (tt : AT) (ai1 : AI) (g1 : AG) (tt1 : AT) (te : AE) (R : List D → Mem → AK → Prop) : AE := fun ρ M P EX => ai ρ M (fun xs M1 => LcA2 vs vs1 g tt ai1 g1 tt1 te xs ρ M1 (fun acc M2 => R acc M2 P)) EX
theorem lc2_ok {elt tg iter tg1 iter1 : Expr} {ifs ifs1 : List Expr} {scope : Scope} {vs vs1 ws ws1 : List Nat} {ai ai1 : AI} {g g1 : AG} {tt tt1 : AT} {te : AE} (b : Bool) {F : List Addr} {ρ : Rho} {M : Mem} {P : AK} {EX : XKA} {W : WX} {σ : L2.St} {H : Hp} {Q : VK}
    (hi : DenI X tg iter ai) (hg : Blk X scope fun X' => DenG X' tg ws g) (hw : ∀ i ∈ ws, i ∈ vs) (ht : Blk X scope fun X' => DenTs X' ifs tt) (hi1 : Blk X scope fun X' => DenI X' tg1 iter1 ai1) (hg1 : Blk X scope fun X' => DenG X' tg1 ws1 g1) (hw1 : ∀ i ∈ ws1, i ∈ vs1) (ht1 : Blk X scope fun X' => DenTs X' ifs1 tt1)
    (he : Blk X scope fun X' => DenE X' elt te) (S : Sta X H F M σ ρ) (tk : Takes X W)
    (h : aLc2L vs vs1 ai g tt ai1 g1 tt1 te (if b = true then rMut else rFro) ρ M P EX) (hP : ∀ v d M' H', Step H M H' M' → MSt X.K H' F M' → DV X.K H' (um F M') v d → P d M' → Q v H') (hX : LX X H F M EX (fun cls d H' => W cls d σ H')) :
    tLc2 (IW X tg iter) (fun v σ H Q => ∀ (s : Shared) (H' : Hp) (C : Addr) (cl : List (Str × Addr)) (fp : List Addr), GT (X.blk s H' scope (compEnvC scope cl C X.env) fp) tg v σ H Q)
      (fun σ H Q => ∀ (s : Shared) (H' : Hp) (C : Addr) (cl : List (Str × Addr)) (fp : List Addr) (pins : List (Addr × Obj)) (t : Shared), Inv (X.blk s H' scope (compEnvC scope cl C X.env) fp) pins σ H t →
        wpAny (model X.prog X.w) X.A (forIn ifs true fun c r => if r = true then do let ok ← isTrue c (compEnvC scope cl C X.env) (eval c (compEnvC scope cl C X.env)); pure (ForInStep.yield ok) else pure (ForInStep.yield r)) (TP (X.blk s H' scope (compEnvC scope cl C X.env) fp) pins σ Q) (fun _ _ => False) t)
      (fun σ H R => ∀ (s : Shared) (H' : Hp) (C : Addr) (cl : List (Str × Addr)) (fp : List Addr), IW (X.blk s H' scope (compEnvC scope cl C X.env) fp) tg1 iter1 σ H R)
      (fun v σ H Q => ∀ (s : Shared) (H' : Hp) (C : Addr) (cl : List (Str × Addr)) (fp : List Addr), GT (X.blk s H' scope (compEnvC scope cl C X.env) fp) tg1 v σ H Q)
      (fun σ H Q => ∀ (s : Shared) (H' : Hp) (C : Addr) (cl : List (Str × Addr)) (fp : List Addr) (pins : List (Addr × Obj)) (t : Shared), Inv (X.blk s H' scope (compEnvC scope cl C X.env) fp) pins σ H t →
        wpAny (model X.prog X.w) X.A (forIn ifs1 true fun c r => if r = true then do let ok ← isTrue c (compEnvC scope cl C X.env) (eval c (compEnvC scope cl C X.env)); pure (ForInStep.yield ok) else pure (ForInStep.yield r)) (TP (X.blk s H' scope (compEnvC scope cl C X.env) fp) pins σ Q) (fun _ _ => False) t)
      (fun σ H Q => ∀ (s : Shared) (H' : Hp) (C : Addr) (cl : List (Str × Addr)) (fp : List Addr), EW (X.blk s H' scope (compEnvC scope cl C X.env) fp) elt σ H Q) vs vs1 σ H Q := by
  refine hi.run F ρ M _ EX W σ H _ S tk h (fun J xs M1 H1 s1 m1 io hL => ?_) hX
  intro D0 hD
  obtain ⟨Jv, h0, hstep, hd⟩ := hL
  have nD := m1.notin hD
  have st0 : Step H1 M1 (upd H1 D0 (.lst [])) M1 := step_new hD
  have mD : MSt X.K (upd H1 D0 (.lst [])) (D0 :: F) M1 := by
    have m := mst_new (o := .lst []) m1 hD
    exact ⟨m.nd, fun q hq => by
      obtain ⟨u, e⟩ := (m1.ok q hq).there
      have z := (m1.ok q hq)
      have key : ∀ {o : MO}, MoOk X.K H1 (um F M1) q.1 o → MoOk X.K (upd H1 D0 (.lst [])) (um (D0 :: F) M1) q.1 o := fun {o} z => by
        have f2 : FrGo H1 F (D0 :: F) := fun b hb => (List.mem_cons.mp hb).elim (fun y => Or.inr (by rw [y]; exact hD)) Or.inl
        have ne : upd H1 D0 (.lst []) q.1 = H1 q.1 := upd_ne (ne_of_none e hD)
        cases o with
        | lst ds => obtain ⟨a, b1, b2⟩ := z; exact ⟨a, ne.trans b1, b2.step2 st0 f2⟩
        | ins C fs => obtain ⟨a, b, b1, b2⟩ := z; exact ⟨a, b, ne.trans b1, b2.step2 st0 f2⟩
        | dK kvs => obtain ⟨a, b1, b2⟩ := z; exact ⟨a, ne.trans b1, b2.step2 st0 f2⟩
        | lk o ws kvs => obtain ⟨b1, b2⟩ := z; exact ⟨ne.trans b1, b2.step2 st0 f2⟩
        | any o => exact ne.trans z
      exact key z, fun b hb => by
      rcases List.mem_cons.mp hb with y | y
      · rw [y]; exact ⟨fun z => nD (List.mem_append_left _ z), _, upd_same⟩
      · exact m.fr b y⟩
  have f2 : FrGo H1 F (D0 :: F) := fun b hb => (List.mem_cons.mp hb).elim (fun y => Or.inr (by rw [y]; exact hD)) Or.inl
  -- the invariant of the turns
  let Wv : Nat → Hp → Prop := fun i H' => ∃ acc as M', Step H1 M1 H' M' ∧ MSt X.K H' (D0 :: F) M' ∧ H' D0 = some (.lst as) ∧ DVs X.K H' (um (D0 :: F) M') as acc ∧ Jv i acc M'
  refine ⟨fun i m H' => m + i = xs.length ∧ Wv i H', ⟨xs.length, Nat.add_zero _, [], [], M1, st0, mD, upd_same, .nil, h0⟩, ?_⟩
  rintro i m H' ⟨hm, acc, as, M', s', m', hD', dvs, hj⟩
  obtain ⟨ho, hstop⟩ := io (D0 :: F) H' M' s'.toX f2 m'
  by_cases hi' : i = xs.length
  · subst hi'
    left
    refine ⟨hstop, ?_⟩
    have mF : MSt X.K H' F M' := m'.less fun b hb => List.mem_cons_of_mem _ hb
    have nD' : D0 ∉ dom M' := (m'.fr D0 List.mem_cons_self).1
    have nF : D0 ∉ F := fun z => nD (List.mem_append_right _ z)
    have hq := hd acc M' hj
    cases b with
    | false =>
      have hq' : P (.lst acc) M' := hq
      refine hP _ _ M' H' (s1.trans s') mF (.lst hD' (fun z => (List.mem_append.mp z).elim nD' nF) (dvs.anti fun a ha => (List.mem_append.mp ha).elim (fun z => List.mem_append_left _ z) fun z => List.mem_append_right _ (List.mem_cons_of_mem _ z))) hq'
    | true =>
      have hq' : ∀ q, q ∉ dom M' → P (.ref q) (M' ++ [(q, .lst acc)]) := hq
      have sp : Split (M' ++ [(D0, MO.lst acc)]) M' [(D0, MO.lst acc)] := List.Perm.refl _
      have sub : ∀ a ∈ um F (M' ++ [(D0, MO.lst acc)]), a ∈ um (D0 :: F) M' := fun a ha => by
        rw [um, dom_app] at ha
        simp only [List.mem_append, List.mem_singleton] at ha
        rcases ha with (z | z) | z
        · exact List.mem_append_left _ z
        · exact List.mem_append_right _ (by rw [z]; exact List.mem_cons_self)
        · exact List.mem_append_right _ (List.mem_cons_of_mem _ z)
      have mm : MSt X.K H' F (M' ++ [(D0, MO.lst acc)]) := by
        refine ⟨?_, fun q hq => ?_, fun b hb => ⟨?_, (mF.fr b hb).2⟩⟩
        · rw [dom_app]
          refine List.nodup_append.mpr ⟨mF.nd, by simp, fun a ha b hb => ?_⟩
          rw [List.mem_singleton.mp hb]
          rintro rfl
          exact nD' ha
        · rcases List.mem_append.mp hq with z | z
          · exact (m'.ok q z).anti sub
          · rw [List.mem_singleton.mp z]
            exact ⟨as, hD', dvs.anti sub⟩
        · rw [dom_app]
          intro z
          rcases List.mem_append.mp z with z | z
          · exact (mF.fr b hb).1 z
          · rw [List.mem_singleton.mp z] at hb; exact nF hb
      refine hP _ _ (M' ++ [(D0, MO.lst acc)]) H' ⟨(s1.trans s').keep, fun b hb => ?_⟩ mm (.ref D0) (hq' D0 nD')
      rw [dom_app] at hb
      rcases List.mem_append.mp hb with z | z
      · exact (s1.trans s').new b z
      · rw [List.mem_singleton.mp z]
        cases e : H D0 with
        | none => exact Or.inr rfl
        | some u =>
          by_cases hdm : D0 ∈ dom M
          · exact Or.inl hdm
          · have := s1.keep D0 u hdm e
            rw [hD] at this; cases this
  · right
    have hlt : i < xs.length := by omega
    obtain ⟨d, hd'⟩ : ∃ d, xs[i]? = some d := ⟨_, List.getElem?_eq_getElem hlt⟩
    obtain ⟨hgo, hy⟩ := ho i d hd'
    refine ⟨hgo, Wv (i + 1), fun H2 q => ⟨m - 1, by omega, by omega, q⟩, fun x H2 hyl => ?_⟩
    obtain ⟨s2, m2, dx⟩ := hy x H2 hyl
    have keepD : ∀ {Ha Hb : Hp} {Ma Mb : Mem} {as : List V}, Step Ha Ma Hb Mb → MSt X.K Ha (D0 :: F) Ma → Ha D0 = some (.lst as) → Hb D0 = some (.lst as) := fun st mm e => st.keep D0 _ (mm.fr D0 List.mem_cons_self).1 e
    have sl2 : SlOk X.K H2 (um (D0 :: F) M') (L2.wipe σ vs) (wipeA ρ vs) := by
      have z : SlOk X.K H1 (um F M1) σ ρ := (S.step s1 m1).sl
      have z2 : SlOk X.K H2 (um (D0 :: F) M') σ ρ := ⟨z.len, fun i d e => let ⟨v, e1, e2⟩ := z.at_ i d e; ⟨v, e1, e2.step2 (s'.trans s2) f2⟩⟩
      exact z2.wipe vs
    intro s_ H_ C_ cl_ fp_
    refine (hg s_ H_ C_ cl_ fp_).run (D0 :: F) x d _ M' _ (fun _ _ _ _ => False) _ H2 _ ⟨sl2, m2⟩ dx takes_no (hstep i d acc M' hd' hj) fun ρ3 M3 σ3 H3 s3 S3 oe q3 => ?_
    refine ⟨wipe_eq oe hw, fun s_ H_ C_ cl_ fp_ pins t J' => ?_⟩
    refine (ht s_ H_ C_ cl_ fp_).run (D0 :: F) ρ3 M3 _ noX (fun _ _ _ _ => False) σ3 H3 _ ⟨S3.sl, S3.ms⟩ takes_no q3 (fun bb M4 H4 s4 m4 q4 => ?_) lx_no pins t J'
    have dv4 := (((dvs.step s2).step s3).step s4)
    have hD4 := keepD s4 S3.ms (keepD s3 m2 (keepD s2 m' hD'))
    cases bb with
    | false =>
      show Wv (i + 1) H4
      exact ⟨acc, as, M4, ((s'.trans s2).trans s3).trans s4, m4, hD4, dv4, q4.2 rfl⟩
    | true =>
      rw [if_pos rfl]
      intro s_ H_ C_ cl_ fp_
      refine (hi1 s_ H_ C_ cl_ fp_).run (D0 :: F) ρ3 M4 _ noX (fun _ _ _ _ => False) σ3 H4 _ ⟨S3.sl.step s4, m4⟩ takes_no (q4.1 rfl) (fun J1 ys M5 H5 s5 m5 io1 q5 => ?_) lx_no
      obtain ⟨J1v, h10, h1step, h1d⟩ := q5
      let W1 : Nat → Hp → Prop := fun j H' => ∃ acc as M', Step H1 M1 H' M' ∧ StepX (D0 :: F) H5 M5 H' M' ∧ MSt X.K H' (D0 :: F) M' ∧ H' D0 = some (.lst as) ∧ DVs X.K H' (um (D0 :: F) M') as acc ∧ J1v j acc M'
      refine ⟨fun j k H' => k + j = ys.length ∧ W1 j H', ⟨ys.length, Nat.add_zero _, acc, as, M5, (((s'.trans s2).trans s3).trans s4).trans s5, (Step.refl _ _).toX, m5, keepD s5 m4 hD4, dv4.step s5, h10⟩, ?_⟩
      rintro j k H6 ⟨hk, acc6, as6, M6, s6, x6, m6, hD6, dv6, hj6⟩
      obtain ⟨ho1, hstop1⟩ := io1 (D0 :: F) H6 M6 x6 FrGo.refl m6
      by_cases hj' : j = ys.length
      · subst hj'
        exact Or.inl ⟨hstop1, acc6, as6, M6, s6, m6, hD6, dv6, h1d acc6 M6 hj6⟩
      · have hlt1 : j < ys.length := by omega
        obtain ⟨d1, hd1⟩ : ∃ d, ys[j]? = some d := ⟨_, List.getElem?_eq_getElem hlt1⟩
        obtain ⟨hgo1, hy1⟩ := ho1 j d1 hd1
        refine Or.inr ⟨hgo1, W1 (j + 1), fun H2 q => ⟨k - 1, by omega, by omega, q⟩, fun x H7 hyl => ?_⟩
        obtain ⟨s7, m7, dx1⟩ := hy1 x H7 hyl
        have x7 : StepX (D0 :: F) H5 M5 H7 M6 := x6.step s7
        have sl7 : SlOk X.K H7 (um (D0 :: F) M6) (L2.wipe σ3 vs1) (wipeA ρ3 vs1) := by
          have z : SlOk X.K H5 (um (D0 :: F) M5) σ3 ρ3 := (S3.sl.step s4).step s5
          have z2 : SlOk X.K H7 (um (D0 :: F) M6) σ3 ρ3 := ⟨z.len, fun i d e => let ⟨v, e1, e2⟩ := z.at_ i d e; ⟨v, e1, e2.step2X x7 FrGo.refl⟩⟩
          exact z2.wipe vs1
        intro s_ H_ C_ cl_ fp_
        refine (hg1 s_ H_ C_ cl_ fp_).run (D0 :: F) x d1 _ M6 _ (fun _ _ _ _ => False) _ H7 _ ⟨sl7, m7⟩ dx1 takes_no (h1step j d1 acc6 M6 hd1 hj6) fun ρ8 M8 σ8 H8 s8 S8 oe1 q8 => ?_
        refine ⟨wipe_eq oe1 hw1, fun s_ H_ C_ cl_ fp_ pins t J' => ?_⟩
        refine (ht1 s_ H_ C_ cl_ fp_).run (D0 :: F) ρ8 M8 _ noX (fun _ _ _ _ => False) σ8 H8 _ ⟨S8.sl, S8.ms⟩ takes_no q8 (fun bb M9 H9 s9 m9 q9 => ?_) lx_no pins t J'
        have dv9 := (((dv6.step s7).step s8).step s9)
        have hD9 := keepD s9 S8.ms (keepD s8 m7 (keepD s7 m6 hD6))
        cases bb with
        | false =>
          show W1 (j + 1) H9
          exact ⟨acc6, as6, M9, ((s6.trans s7).trans s8).trans s9, (x7.step s8).step s9, m9, hD9, dv9, q9.2 rfl⟩
        | true =>
          rw [if_pos rfl]
          intro s_ H_ C_ cl_ fp_
          refine (he s_ H_ C_ cl_ fp_).run (D0 :: F) ρ8 M9 _ noX (fun _ _ _ _ => False) σ8 H9 _ ⟨S8.sl.step s9, m9⟩ takes_no (q9.1 rfl) (fun y yd MA HA sA mA dy qA => ?_) lx_no
          have hDA := keepD sA m9 hD9
          refine ⟨as6, hDA, by rw [dv6.length]; exact Nat.lt_of_lt_of_le qA.1 (by decide), acc6 ++ [yd], as6 ++ [y], MA, ?_, (((x7.step s8).step s9).step sA).frz, ?_, upd_same, ?_, qA.2⟩
          · refine ⟨fun b u hb e => ?_, fun b hb => ((((s6.trans s7).trans s8).trans s9).trans sA).new b hb⟩
            rw [upd_ne (ne_of_none e hD)]
            exact ((((s6.trans s7).trans s8).trans s9).trans sA).keep b u hb e
          · refine ⟨mA.nd, fun q hq => ?_, fun b hb => ⟨(mA.fr b hb).1, ?_⟩⟩
            · have nq : q.1 ≠ D0 := fun z => (mA.fr D0 List.mem_cons_self).1 (by rw [← z]; exact List.mem_map_of_mem (f := (·.1)) hq)
              exact MoOk.frz (List.mem_append_right _ List.mem_cons_self) nq (mA.ok q hq)
            · by_cases e : b = D0
              · rw [e]; exact ⟨_, upd_same⟩
              · rw [upd_ne e]; exact (mA.fr b hb).2
          · exact DVs.frz (List.mem_append_right _ List.mem_cons_self) ((dv9.step sA).append (DVs.one dy))
/-- [elt for tg in iter if .. for tg1 in iter1 if ..] -/
theorem de_lc2 {elt tg iter tg1 iter1 : Expr} {ifs ifs1 : List Expr} {scope : Scope} {own : List (Str × Nat)} {vs1 ws ws1 : List Nat} {pos : Pos} {ai ai1 : AI} {g g1 : AG} {tt tt1 : AT} {te : AE} (b : Bool) (own_ : own = own) (hc : X.calm = true) (hN : X.N.Nodup) (ok : BlkOk X.N X.env.scope scope own)
    (hi : DenI X tg iter ai) (hg : Blk X scope fun X' => DenG X' tg ws g) (ht : Blk X scope fun X' => DenTs X' ifs tt) (hi1 : Blk X scope fun X' => DenI X' tg1 iter1 ai1) (hg1 : Blk X scope fun X' => DenG X' tg1 ws1 g1) (ht1 : Blk X scope fun X' => DenTs X' ifs1 tt1) (he : Blk X scope fun X' => DenE X' elt te) (hw : ∀ i ∈ ws, i ∈ own.map (·.2) := by decide) (hw1 : ∀ i ∈ ws1, i ∈ vs1 := by decide) (hv : ∀ i ∈ vs1, i ∈ own.map (·.2) := by decide) (hs : ∀ x, foldedSetIterable iter X.env x = pure x := by intro _; rfl) (hs1 : ∀ env x, foldedSetIterable iter1 env x = pure x := by intro _ _; rfl) :
    DenE X (.ListComp elt [⟨tg, iter, ifs, 0⟩, ⟨tg1, iter1, ifs1, 0⟩] scope pos) (aLc2L (own.map (·.2)) vs1 ai g tt ai1 g1 tt1 te (if b = true then rMut else rFro)) :=
  ⟨fun F ρ M P EX W σ H Q S tk h hP hX => PE.ew (pe_lc2 (own := own) hc hN (pi_iw (X := X)) ok hv (fun s H C cl fp => ⟨fun pins s σ H v u Q I r h => h _ _ _ _ _ pins s u I r⟩) (fun s H C cl fp => ⟨fun pins s σ H Q I h => h _ _ _ _ _ pins s I⟩) (fun s H C cl fp => ⟨fun pins s σ H R I h => h _ _ _ _ _ pins s I⟩) (fun s H C cl fp => ⟨fun pins s σ H v u Q I r h => h _ _ _ _ _ pins s u I r⟩) (fun s H C cl fp => ⟨fun pins s σ H Q I h => h _ _ _ _ _ pins s I⟩) (fun s H C cl fp => ⟨fun pins s σ H Q I h => h _ _ _ _ _ pins s I⟩) hs hs1)
    (lc2_ok b hi hg hw ht hi1 hg1 hw1 ht1 he S tk h hP hX)⟩
/-- y = .. -/
theorem ds_setLc2 {elt tg iter tg1 iter1 : Expr} {ifs ifs1 : List Expr} {scope : Scope} {own : List (Str × Nat)} {vs1 ws ws1 : List Nat} {pos spos py : Pos} {ai ai1 : AI} {g g1 : AG} {tt tt1 : AT} {te : AE} (b : Bool) (i : Nat) {y : Str} (own_ : own = own) (hc : X.calm = true) (hN : X.N.Nodup) (ok : BlkOk X.N X.env.scope scope own)
    (hi : DenI X tg iter ai) (hg : Blk X scope fun X' => DenG X' tg ws g) (ht : Blk X scope fun X' => DenTs X' ifs tt) (hi1 : Blk X scope fun X' => DenI X' tg1 iter1 ai1) (hg1 : Blk X scope fun X' => DenG X' tg1 ws1 g1) (ht1 : Blk X scope fun X' => DenTs X' ifs1 tt1) (he : Blk X scope fun X' => DenE X' elt te)
    (hsw : swapsWith (.ListComp elt [⟨tg, iter, ifs, 0⟩, ⟨tg1, iter1, ifs1, 0⟩] scope pos) (some (.Name y py)) spos.line X.env = pure true) (hy : X.N[i]? = some y := by rfl) (hyl : X.env.scope.names.lookup y = some .local := by rfl) (hw : ∀ i ∈ ws, i ∈ own.map (·.2) := by decide) (hw1 : ∀ i ∈ ws1, i ∈ vs1 := by decide) (hv : ∀ i ∈ vs1, i ∈ own.map (·.2) := by decide) (hs : ∀ x, foldedSetIterable iter X.env x = pure x := by intro _; rfl) (hs1 : ∀ env x, foldedSetIterable iter1 env x = pure x := by intro _ _; rfl) :
    DenS X (.Assign [.Name y py] (.ListComp elt [⟨tg, iter, ifs, 0⟩, ⟨tg1, iter1, ifs1, 0⟩] scope pos) spos) (aAsg (aLc2L (own.map (·.2)) vs1 ai g tt ai1 g1 tt1 te (if b = true then rMut else rFro)) (gNameA i)) :=
  ⟨fun F ρ M k W σ H D S tk h L => fun pins s I => (ps_setLc2 (own := own) hc hN hy hyl hsw (pi_iw (X := X)) ok hv (fun s H C cl fp => ⟨fun pins s σ H v u Q I r h => h _ _ _ _ _ pins s u I r⟩) (fun s H C cl fp => ⟨fun pins s σ H Q I h => h _ _ _ _ _ pins s I⟩) (fun s H C cl fp => ⟨fun pins s σ H R I h => h _ _ _ _ _ pins s I⟩) (fun s H C cl fp => ⟨fun pins s σ H v u Q I r h => h _ _ _ _ _ pins s u I r⟩) (fun s H C cl fp => ⟨fun pins s σ H Q I h => h _ _ _ _ _ pins s I⟩) (fun s H C cl fp => ⟨fun pins s σ H Q I h => h _ _ _ _ _ pins s I⟩) hs hs1).run pins s σ H D I
    (lc2_ok b hi hg hw ht hi1 hg1 hw1 ht1 he S tk h (fun v d M' H' s m dv q => L.nx _ M' _ H' s ⟨by rw [sS_set]; exact (S.sl.step s).set dv i, m⟩ q) (L.lx S))⟩
end
end Ab
set_option maxRecDepth 100000
set_option maxHeartbeats 2000000
/-! Ab13: texts backwards and many times, a tuple's index, enumerate over a tuple. -/
namespace Ab
open PySem L2 PyProof.Rows
section
variable {X : Cx}
/-! ### text * n -/
theorem op_mulS : OpR X (binaryOp .Mult) (fun x y H Q => ∃ (z : Str) (k : Int), x = .str z ∧ y = .int k ∧ 1 ≤ k ∧ k ≤ 100 ∧ z.length ≤ 100000 ∧ ∀ z' : Str, z'.length ≤ z.length * k.toNat → (∀ c ∈ z'.cps.toList, c ∈ z.cps.toList) → Q (.str z') H) := by
  intro pins s σ H x y v u Q I rx ry h
  obtain ⟨z, k, rfl, rfl, h1, h2, hz, q⟩ := h
  obtain ⟨t, rfl⟩ := rx
  obtain ⟨t', rfl⟩ := ry
  have hk : k.toNat ≤ 100 := by omega
  have hm : z.length * k.toNat ≤ 100000 * 100 := Nat.mul_le_mul hz hk
  have len : ∀ (n : Nat) (acc : Array Nat), ((List.replicate n z.cps).foldl (· ++ ·) acc).size = acc.size + z.length * n := by
    intro n
    induction n with
    | zero => intro acc; rfl
    | succ n ih =>
      intro acc
      rw [List.replicate_succ, List.foldl_cons, ih, Array.size_append, Nat.mul_succ]
      show acc.size + z.length + z.length * n = _
      omega
  have mem : ∀ (n : Nat) (acc : Array Nat), (∀ c ∈ acc.toList, c ∈ z.cps.toList) → ∀ c ∈ ((List.replicate n z.cps).foldl (· ++ ·) acc).toList, c ∈ z.cps.toList := by
    intro n
    induction n with
    | zero => intro acc h; exact h
    | succ n ih =>
      intro acc h
      rw [List.replicate_succ, List.foldl_cons]
      refine ih _ fun c hc => ?_
      rw [Array.toList_append] at hc
      rcases List.mem_append.mp hc with y | y
      · exact h c y
      · exact y
  refine PySem.P.mul_str ?_ (fun _ _ => ?_) (fun _ _ => ?_) ?_
  · have a : ¬ k < -(2 ^ 63) := by omega
    have b : ¬ k ≥ 2 ^ 63 := by omega
    rw [decide_eq_false a, decide_eq_false b]; rfl
  · intro y
    have y2 := (Int.ediv_lt_iff_lt_mul (by omega)).mp y
    have y3 : (z.length : Int) * k ≤ z.length * 100 := Int.mul_le_mul_of_nonneg_left h2 (by omega)
    omega
  · unfold Builtin.Str.tooLong
    have : ¬ z.length * k.toNat > sizeLine := fun y => by
      have s : (100000 * 100 : Nat) ≤ sizeLine := by decide
      omega
    exact decide_eq_false this
  · rw [if_neg (by omega)]
    split
    · rename_i c
      refine ⟨.str z, H, I, ⟨_, rfl⟩, q z ?_ fun _ h => h⟩
      exact Nat.le_mul_of_pos_right _ (by omega)
    · have l := len k.toNat #[]
      refine ⟨?_, .str _, H, I.tok _, ⟨_, rfl⟩, q _ ?_ (mem _ _ fun c hc => nomatch hc)⟩
      · show Array.size _ ≤ _
        rw [l]
        have s : (100000 * 100 : Nat) ≤ sizeLine := by decide
        have e : (#[] : Array Nat).size = 0 := rfl
        omega
      · show Array.size _ ≤ _
        rw [l]
        have e : (#[] : Array Nat).size = 0 := rfl
        omega
inductive MulSA : A2
  | str {z : Str} {k : Int} {M : Mem} {P : AK} : 1 ≤ k ∧ k ≤ 100 → z.length ≤ 100000 → (∀ z' : Str, z'.length ≤ z.length * k.toNat → (∀ c ∈ z'.cps.toList, c ∈ z.cps.toList) → P (.str z') M) → MulSA (.str z) (.int k) M P
theorem ok_mulS : OkA2 X (binaryOp .Mult) MulSA := fun F x y v w M P H Q m dv dw h hP => by
  cases h with
  | str hk hz q =>
    cases dv; cases dw
    exact ⟨_, op_mulS, _, _, rfl, rfl, hk.1, hk.2, hz, fun z' hl hc => hP _ _ M H (Step.refl H M) m (.str _) (q z' hl hc)⟩
/-! ### text[::-1] -/
/-- the text's signs, picked by the step -/
def stepS (z : Str) (k : Int) : Str := ⟨((Builtin.Str.strSliceIndices none none k z.length).filterMap (z.cps[·]?)).toArray⟩
inductive RevA : D → Int → Mem → AK → Prop
  | str {z : Str} {M : Mem} {P : AK} : z.length ≤ 100000 → P (.str (stepS z (-1))) M → RevA (.str z) (-1) M P
def aStep (te tk : AE) : AE := fun ρ M P EX => te ρ M (fun d M1 => tk ρ M1 (fun e M2 => ∃ k, e = .int k ∧ RevA d k M2 P) EX) EX
theorem stepS_length (z : Str) : (stepS z (-1)).length = z.length := by
  show (List.toArray _).size = _
  have e : Builtin.Str.strSliceIndices none none (-1) z.length = (List.range z.length).map fun k => z.length - 1 - k := by
    have := PySem.W.krv_sliceRange z.length
    rw [← this]
    rfl
  rw [e, PySem.W.krv_range, List.filterMap_reverse, List.size_toArray, List.length_reverse]
  have h2 := PySem.W.krv_all z.cps
  rw [show z.length = z.cps.size from rfl, h2, Array.length_toList]
theorem stepS_mem (z : Str) : ∀ c ∈ (stepS z (-1)).cps.toList, c ∈ z.cps.toList := by
  intro c hc
  have hc' : c ∈ (Builtin.Str.strSliceIndices none none (-1) z.length).filterMap (z.cps[·]?) := by
    have e : (stepS z (-1)).cps.toList = (Builtin.Str.strSliceIndices none none (-1) z.length).filterMap (z.cps[·]?) := rfl
    rw [← e]; exact hc
  obtain ⟨i, _, h⟩ := List.mem_filterMap.mp hc'
  rw [← Array.getElem?_toList] at h
  exact List.mem_of_getElem? h
theorem pe_stepS {e k : Expr} {te tk : TE} {p2 pos : Pos} (he : PE X e te) (hk : PE X k tk) : PE X (.Subscript e (.Slice none none (some k) p2) pos) (fun σ H Q => te σ H fun x H1 => tk σ H1 fun y H2 => ∃ z, x = .str z ∧ y = .int (-1) ∧ z.length ≤ sizeLine ∧ Q (.str (stepS z (-1))) H2) := by
  refine ⟨fun pins s σ H Q I h => ?_⟩
  refine Subscript_ (thn (he.run pins s σ H _ I h) fun v s1 ⟨x, H1, I1, r1, q1⟩ => ?_)
  refine wpAny_Slice ?_
  rw [evalPart_none]
  refine wpAny_pure ?_
  refine wpAny_pure ?_
  rw [evalPart_some]
  refine thn (hk.run pins s1 σ H1 _ I1 q1) fun vk s3 ⟨y, H3, I3, rk, z, ex, ey, hz, q3⟩ => ?_
  subst ex; subst ey
  obtain ⟨t, rfl⟩ := r1
  obtain ⟨tk', rfl⟩ := rk
  have I4 : Inv X pins σ H3 { s3 with heap := s3.heap.push { cls := .type "slice", data := .fields #[.none, .none, .int (-1) tk'] } } := I3.kept (t' := s3.toks) fun b ob q => Heap.get?_push_of_some _ q
  show wpAny (model X.prog X.w) X.A (subscriptTail e (.Slice none none (some k) p2) (.str z t) (.ref s3.heap.objs.size)) (EP X pins σ Q) X.xe { s3 with heap := s3.heap.push { cls := .type "slice", data := .fields #[.none, .none, .int (-1) tk'] } }
  refine tail_any (ops := [.ref s3.heap.objs.size, .str z t]) (typeIs_str _ _ _) PySem.F.slot_str_getitem.lookup ?_ (by with_unfolding_all rfl)
  obtain ⟨os, hos, hcs, hds⟩ := Heap.IsSliceOf.new s3.heap .none .none (.int (-1) tk')
  refine wpAny_getItem_str_slice (l := none) (u := none) (st := some (-1, tk')) ⟨os, hos, hcs, hds⟩ rfl ?_
  show Made.post (if ((-1 : Int) == 1 && _) = true then _ else Made.str (stepS z (-1))) _ _
  rw [if_neg (by simp)]
  exact ⟨by rw [stepS_length]; exact hz, .str _, H3, I4.tok _, ⟨_, rfl⟩, q3⟩
theorem de_step {e k : Expr} {te tk : AE} {p2 pos : Pos} (he : DenE X e te) (hk : DenE X k tk) : DenE X (.Subscript e (.Slice none none (some k) p2) pos) (aStep te tk) :=
  ⟨fun F ρ M P EX W σ H Q S tk' h hP hX => (pe_stepS (pe_ew (X := X)) (pe_ew (X := X))).ew (he.run F ρ M _ EX W σ H _ S tk' h (fun v d M1 H1 s1 m1 dv q => hk.run F ρ M1 _ EX W σ H1 _ (S.step s1 m1) tk' q (fun v2 d2 M2 H2 s2 m2 dv2 q2 => by
      obtain ⟨k, rfl, q2⟩ := q2
      cases q2 with
      | str hz q2 =>
        cases dv; cases dv2
        exact ⟨_, rfl, rfl, Nat.le_trans hz (by decide), hP _ _ M2 H2 (s1.trans s2) m2 (.str _) q2⟩) (hX.step s1)) hX)⟩

/-! ### t.index(x) -/
inductive TIndexA : AM
  | mk {ys : List Str} {z : Str} {j : Nat} {M : Mem} {P : AK} : ys[j]? = some z → (∀ m, m < j → ys[m]? ≠ some z) → P (.int (j : Int)) M → TIndexA (.tpn (ys.map D.str)) [.str z] M P
theorem tpn_at {pins : List (Addr × Obj)} {σ : L2.St} {H : Hp} {s : Shared} {F : List Addr} {M : Mem} {v : V} {u : Value} {ds : List D} (I : Inv X pins σ H s) (r : RelV v u) (h : DV X.K H (um F M) v (.tpn ds)) :
    s.TypeIs u "tuple" ∧ ∀ a, u = .ref a → ∃ ob, s.heap.get? a = some ob ∧ ob.dict = none := by
  cases h with
  | tpn h hd hn t =>
    cases r
    obtain ⟨e, _, _, _, o, e2, c, _⟩ := I.hok _ _ h
    rw [e] at e2; cases e2
    exact ⟨⟨_, e, c⟩, fun a q => by cases q; exact ⟨_, e, hd⟩⟩
  | tpnK h1 h2 h3 h t =>
    cases r
    exact ⟨⟨_, I.kIn _ _ h1, h2⟩, fun a q => by cases q; exact ⟨_, I.kIn _ _ h1, h3⟩⟩
theorem mt_tindex {pins : List (Addr × Obj)} {σ : L2.St} {H : Hp} {s : Shared} {Q : VK} {F : List Addr} {M : Mem} {x : V} {xs : List V} {v : Value} {us : List Value} {d : D} {ds : List D} {P : AK} (I : Inv X pins σ H s) (r1 : RelV x v) (r2 : Vals xs us) (m : MSt X.K H F M) (dv : DV X.K H (um F M) x d) (dvs : DVs X.K H (um F M) xs ds) (h : TIndexA d ds M P)
    (hP : ∀ z d M' H', Step H M H' M' → MSt X.K H' F M' → DV X.K H' (um F M') z d → P d M' → Q z H') : wpAny (model X.prog X.w) X.A (call (.builtin "tuple.index") (v :: us)) (EP X pins σ Q) X.xe s := by
  cases h with
  | @mk ys z j _ _ h1 h2 q =>
    obtain ⟨p, xs, rfl, e, t, _⟩ := dv.tpn_inv
    cases dvs with
    | cons d1 d2 =>
      cases d1; cases d2
      have := DVs.strs t rfl
      subst this
      exact mt_tup_index pins s σ H _ _ v us Q I r1 r2 ⟨p, ys, z, j, rfl, rfl, e, h1, h2, hP _ _ M H (Step.refl H M) m (.int _) q⟩
def aTIx (to : AE) (t : AA) : AE := fun ρ M P EX => to ρ M (fun x M1 => (∃ l, x = .tpn l) ∧ t ρ M1 (fun ds M2 => TIndexA x ds M2 P) EX) EX
theorem de_tix {o e : Expr} {es : List Expr} {to : AE} {t : AA} {name : Str} {apos cpos : Pos} (pa : PlainAttrs "tuple") (slot : Slot "tuple" name "tuple.index") (hty : typeOf (.builtin "tuple.index") = pure (.type "method_descriptor")) (ho : DenE X o to) (ha : DenA X (e :: es) t)
    (hbase : attributeBase o name X.env (eval o X.env) = eval o X.env := by rfl)
    (hfew : ((backTo cpos (starEach (e :: es) X.env)).all (fun x => !x.1) && (backToKw cpos (keywordEach [] X.env)).all (fun x => x.1.isSome) && decide ((e :: es).length + ([] : List Keyword).length + (if ([] : List Keyword).isEmpty then 0 else 1) < 30)) = true := by rfl)
    (hline : (apos.endLine == cpos.line) = true := by rfl) (hs : starEach (e :: es) X.env = (false, eval e X.env) :: starEach es X.env := by rfl) (hplain : (backTo cpos (starEach es X.env)).any (·.1) = false := by rfl) :
    DenE X (.Call (.Attribute o name apos) (e :: es) [] cpos) (aTIx to t) :=
  ⟨fun F ρ M P EX W σ H Q S tk h hP hX => fun pins s I => by
    refine wpAny_Call_method_late hbase hfew hline rfl (thn (ho.run F ρ M _ EX W σ H (fun x H1 => ∃ d M1, Step H M H1 M1 ∧ MSt X.K H1 F M1 ∧ DV X.K H1 (um F M1) x d ∧ (∃ l, d = .tpn l) ∧ t ρ M1 (fun ds M2 => TIndexA d ds M2 P) EX) S tk h (fun v d M1 H1 s1 m1 dv q => ⟨d, M1, s1, m1, dv, q⟩) hX pins s I) fun v s1 ⟨x, H1, I1, r1, d, M1, st1, m1, dv, ⟨l, el⟩, q⟩ => ?_)
    subst el
    obtain ⟨h1, h2⟩ := tpn_at I1 r1 dv
    refine ⟨"tuple", "tuple.index", pa, slot, hty, h1, h2, ?_⟩
    have hA := ha.run F ρ M1 _ EX W σ H1 (fun xs H2 => ∃ ds M2, Step H1 M1 H2 M2 ∧ MSt X.K H2 F M2 ∧ DVs X.K H2 (um F M2) xs ds ∧ TIndexA (.tpn l) ds M2 P) (S.step st1 m1) tk q (fun vs ds M2 H2 s2 m2 dvs q2 => ⟨ds, M2, s2, m2, dvs, q2⟩) (hX.step st1) cpos pins s1 I1
    rw [hs] at hA ⊢
    refine Calls.callWith_builtin (by show (false || (backTo cpos (starEach es X.env)).any (·.1)) = false; rw [hplain] <;> rfl) (Calls.evalArgs_plain ?_)
    exact thn hA fun us s2 ⟨vs, H2, I2, r2, ds, M2, st2, m2, dvs, q2⟩ => mt_tindex I2 r1 r2 m2 (dv.step st2) dvs q2 fun z d' M' H' st m d2 p => hP z d' M' H' ((st1.trans st2).trans st) m d2 p⟩

/-! ### what is known of a value may be forgotten -/
inductive WkD : D → D → Prop
  | tpn {l : List D} : WkD (.tpn l) (.tup l)
  | keep {d : D} : WkD d d
def aWk (te : AE) : AE := fun ρ M P EX => te ρ M (fun d M1 => ∃ d', WkD d d' ∧ P d' M1) EX
theorem de_wk {e : Expr} {te : AE} (he : DenE X e te) : DenE X e (aWk te) :=
  ⟨fun F ρ M P EX W σ H Q S tk h hP hX => he.run F ρ M _ EX W σ H Q S tk h (fun v d M1 H1 s1 m1 dv q => by
    obtain ⟨d', hw, q⟩ := q
    cases hw with
    | tpn =>
      obtain ⟨_, _, _, _, _, dv'⟩ := dv.tpn_inv
      exact hP _ _ _ _ s1 m1 dv' q
    | keep => exact hP _ _ _ _ s1 m1 dv q) hX⟩

/-! ### tuple(xs), the tuple known to be plain -/
theorem call_tupleN : CallR X (.type "tuple") (fun xs H Q => ∃ p ys, xs = [.ref p] ∧ SqL X.K H p ys ∧ ∀ l o, H l = none → o.dict = none → Q (.ref l) (upd H l (.frz o (.tup ys)))) := by
  intro pins s σ H xs us Q I r h
  obtain ⟨p, ys, rfl, hq, q⟩ := h
  obtain ⟨u, rfl, rx⟩ := vals1 r
  cases rx
  obtain ⟨its, r', pl, hz⟩ := I.list hq
  have hlen := r'.length
  refine call_tuple_list pl.isList (fun h' kp => ?_) (by simp only [List.size_toArray] <;> omega)
  have I1 : Inv X pins σ H { s with heap := h' } := I.kept (t' := s.toks) kp
  have I2 : Inv X pins σ (upd H h'.objs.size (.frz { cls := .type "tuple", data := .seq its.toArray } (.tup ys))) { s with heap := h'.push { cls := .type "tuple", data := .seq its.toArray } } :=
    I1.laid (t' := s.toks) (fun b o e => Heap.get?_push_of_some _ e) (Nat.le_refl _) ⟨Heap.get?_push_size _ rfl, hz, its, r', IsTup.new _ _⟩
  exact ⟨.ref h'.objs.size, _, I2, rfl, q _ _ (I1.hok.fresh (Nat.le_refl _)) rfl⟩
inductive TupleNA : AC
  | lst {x : D} {l : List D} {M : Mem} {P : AK} : LstR M x l → P (.tpn l) M → TupleNA [x] M P
theorem okc_tupleN : OkC X (.type "tuple") TupleNA := fun F ds vs M P H Q m dv h hP => by
  cases h with
  | lst hs q =>
    cases dv with
    | cons d1 d2 =>
      cases d2
      obtain ⟨a, xs, rfl, e, t⟩ := hs.inv m d1
      refine ⟨_, call_tupleN, a, xs, rfl, e, fun l o hl ho => ?_⟩
      have nl := m.notin hl
      have m1 := mst_new (o := .frz o (.tup xs)) m hl
      have s1 : Step H M (upd H l (.frz o (.tup xs))) M := step_new hl
      exact hP _ _ M _ s1 m1 (.tpn upd_same ho nl (t.step s1)) q
end
end Ab
set_option maxRecDepth 100000
set_option maxHeartbeats 2000000
/-! Ab14: enumerate over a tuple; isinstance and own classes; a caught exception that is kept. -/
namespace PySem
open Sem (wp)
set_option maxHeartbeats 1000000 in
theorem meets_enumerate_new1 {v : Value} {o : Obj} {H : Heap → Prop} (B : Begins v o H) :
    Meets (Builtin.«enumerate.__new__» ⟨[.type "enumerate", v], []⟩) (fun _ R s => H s.heap ∧
      R (.ok (.ret (.ref (s.heap.push o).objs.size))) { s with heap := (s.heap.push o).push { cls := .type "enumerate", data := .fields #[.none, .bool false, .ref s.heap.objs.size, rawInt 0, .none, .none] } }) :=
  .of_wp fun prog w A R s h => by
    obtain ⟨hp, g, d, tk, os⟩ := s; obtain ⟨h1, h⟩ := h
    have hsub := sub_enumerate
    have q1 : ∀ {A' : Around} {E : Value → Shared → Prop} {Q : Value → Shared → Prop}, Q (.ref hp.objs.size) ⟨hp.push o, g, d, tk, os⟩ → wpAny (model prog w) A' (pyIter v) Q E ⟨hp, g, d, tk, os⟩ :=
      fun q => B.iter prog w _ _ ⟨hp, g, d, tk, os⟩ _ h1 q
    wp_walk using q1
    refine wpAny_stack_any fun st => wpAny_pure ?_
    split
    · rename_i c _ _ _ _ _
      cases (c == Value.type "enumerate")
      · wp_walk using q1
        exact ⟨_, rfl, h⟩
      · wp_walk using q1
        exact ⟨_, rfl, h⟩
    · wp_walk using q1
      exact ⟨_, rfl, h⟩
theorem enum_begins1 {prog : Program} {w : World} {A : Around} {E : Value → Shared → Prop} {s : Shared} {v : Value} {o : Obj} {H : Heap → Prop} {Q : Value → Shared → Prop} (B : Begins v o H) (h1 : H s.heap)
    (h : ∀ h', IsEnum h' (s.heap.objs.size + 1) s.heap.objs.size 0 .none → h'.get? s.heap.objs.size = some o → h'.objs.size = s.heap.objs.size + 2 →
      (∀ b o, s.heap.get? b = some o → h'.get? b = some o) → Q (.ref (s.heap.objs.size + 1)) { s with heap := h' }) :
    wpAny (model prog w) A (call (.type "enumerate") [v]) Q E s := by
  refine callType_new F.called_enumerate (by decide) (F.typeCall_enumerate_1 _) (F.newCall_enumerate_1 _) (fun obj => F.args_object_init_2 obj _) F.entry_enumerate_new
    (meets_enumerate_new1 B) ⟨h1, ?_⟩
  have hz : (s.heap.push o).objs.size = s.heap.objs.size + 1 := Heap.size_push ..
  show _ ∧ _
  rw [hz]
  have he : IsEnum ((s.heap.push o).push { cls := .type "enumerate", data := .fields #[.none, .bool false, .ref s.heap.objs.size, rawInt 0, .none, .none] }) (s.heap.objs.size + 1) s.heap.objs.size 0 .none := by
    have := Heap.get?_push_size (s.heap.push o) (o := { cls := .type "enumerate", data := .fields #[.none, .bool false, .ref s.heap.objs.size, rawInt 0, .none, .none] }) rfl
    rw [hz] at this; exact this
  refine ⟨⟨_, he, rfl⟩, h _ he (Heap.get?_push_of_some _ (Heap.get?_push_size _ B.free)) (by rw [Heap.size_push, hz]) fun b o x => Heap.get?_push_of_some _ (Heap.get?_push_of_some _ x)⟩
end PySem
namespace Ab
open PySem L2 PyProof.Rows
/-- the tuple at a, each item in a new pair -/
def IteT (K : PySem.W.Frag) (a : Addr) : It :=
  ⟨fun i H => ∃ (xs : List V) (x : V), SqT K H a xs ∧ xs[i]? = some x, fun i H v H' => ∃ T x, v = .ref T ∧ H T = none ∧ H' = upd H T (.tup [.int (i : Nat), x]) ∧ ∀ xs, SqT K H a xs → xs[i]? = some x, fun i H => ∃ xs : List V, SqT K H a xs ∧ xs.length ≤ i⟩
theorem turn_enumT {P : Program} {w : World} {K : PySem.W.Frag} {elts : List Expr} {kk : Nat} {tpos : Pos} (a e it : Addr) :
    Turn P w K (.Tuple elts kk tpos) (IteT K a) [e, it] e (fun i h => (∃ old, IsEnum h e it ((i : Nat) : Int) old) ∧ h.IsTupleIter it a i ∧ e ≠ it ∧ a ≠ it ∧ a ≠ e) where
  mem := by simp
  obj := fun i h st b hb => by
    obtain ⟨⟨old, he⟩, ⟨o, ho, hc, hd⟩, _⟩ := st
    have e' : b = e ∨ b = it := by simpa using hb
    rcases e' with z | z
    · rw [z]; exact ⟨_, he, fun v q => nomatch q⟩
    · rw [z]; exact ⟨o, ho, fun v q => by rw [hd] at q; cases q⟩
  keep := fun i h h' st k => let ⟨⟨old, he⟩, hi, hne⟩ := st; ⟨⟨old, k e (by simp) _ he⟩, hi.at fun o q => k it (by simp) o q, hne⟩
  item := by
    intro X hP hw hK hc i pins s σ H E I hf st hg
    subst hP hw hK
    obtain ⟨⟨old, he⟩, hit, hne, na, ne2⟩ := st
    obtain ⟨xs, x, hq, hx⟩ := hg
    obtain ⟨its, rv, p, hz⟩ := I.tuple hq
    obtain ⟨u, hu, ru⟩ := rv.get hx
    have hel : e < s.heap.objs.size := Heap.lt_size he
    have hil : it < s.heap.objs.size := by obtain ⟨_, q, _⟩ := hit; exact Heap.lt_size q
    have hlt : i < its.toArray.size := by simpa using (List.getElem?_eq_some_iff.mp hu).1
    refine wpAny_pyNext_enum_itemD (Draws.tuple (by exact I.ok.hd hc) it a na its.toArray) he ⟨hit, (show s.heap.IsTuple a its.toArray from p)⟩ hlt hne (by simp [hne, Ne.symm ne2]) fun y h' tk hy ho hst hT hsz hk => ?_
    have hy' : its[i]? = some y := by simpa using hy
    rw [hu] at hy'
    cases hy'
    refine ⟨_, rfl, wpAny_letOwnedTupleGo_enum (s := { s with heap := h', toks := tk + 1 }) ho fun h'' he' sb => ?_⟩
    have hT2 : h''.get? s.heap.objs.size = some { cls := .type "tuple", data := .seq #[.int i tk, u] } := (sb.2 _ (Nat.ne_of_gt hel)).trans hT
    have new : ObjOk X.prog X.w (upd H s.heap.objs.size (.tup [.int (i : Nat), x])) h'' s.heap.objs.size (.tup [.int (i : Nat), x]) :=
      ⟨by show 2 ≤ sizeLine; decide, [.int i tk, u], .cons ⟨_, rfl⟩ (.cons ru .nil), ⟨_, hT2, rfl, _, rfl⟩⟩
    have I1 : Inv X pins σ (upd H s.heap.objs.size (.tup [.int (i : Nat), x])) { s with heap := h'', toks := tk + 1 } :=
      I.turnedNew (ch := [e, it]) (fun b ob hb q => (sb.2 b (fun z => hb (by simp [z]))).trans (hk b ob (fun z => hb (by simp [z])) (fun z => hb (by simp [z])) q)) hf (Nat.le_refl _) new
    refine ⟨.ref s.heap.objs.size, _, I1, rfl, ⟨_, x, rfl, I.hok.fresh (Nat.le_refl _), rfl, fun ys hy => by rw [I.tuple_inj hy hq]; exact hx⟩, ⟨⟨u, ?_⟩, hst.1.at fun o q => (sb.2 it (Ne.symm hne)).trans q, hne, na, ne2⟩, fun b hb => ?_⟩
    · have e1 : ((i + 1 : Nat) : Int) = (i : Int) + 1 := by omega
      rw [e1]; exact he'
    · have hb' : b < s.heap.objs.size := by
        have e' : b = e ∨ b = it := by simpa using hb
        rcases e' with z | z
        · rw [z]; exact hel
        · rw [z]; exact hil
      rw [upd_ne (Nat.ne_of_lt hb')]
      exact (hf b hb).1
  done := by
    intro X hP hw hK hc i pins s σ H E I hf st hg
    subst hP hw hK
    obtain ⟨⟨old, he⟩, hit, hne, na, ne2⟩ := st
    obtain ⟨xs, hq, hx⟩ := hg
    obtain ⟨its, rv, p, hz⟩ := I.tuple hq
    obtain ⟨f0, f1, f2, f3, f4, f5⟩ := hf it (by simp)
    have hl := rv.length
    have hle : its.toArray.size ≤ i := by simp; omega
    have hT : s.TypeIs (.ref e) "enumerate" := ⟨_, he, rfl⟩
    unfold pyNext
    refine wpAny_bind (wpAny_attempt (wpAny_callSpecial?_slot (name := Str.ofString "__next__") hT F.slot_enumerate_next
      (wpAny_call_entry F.slot_enumerate_next hT F.entry_enumerate_next ?_ (F.args_enumerate_next_1 _))))
    show wpAny _ _ (field (.ref e) 2 >>= _) _ _ _
    refine wpAny_bind (wpAny_field he rfl (x := .ref it) rfl ?_)
    refine wpAny_bind (wpAny_nextOf_tuple_end (by exact I.ok.hd hc) hit (show s.heap.IsTuple a its.toArray from p) (Array.getElem?_eq_none hle) fun h' x he' hx' => ?_)
    obtain ⟨o, ho, hc'⟩ := hx'
    refine wpAny_bind (wpAny_isInstance (T := "StopIteration") (b := true) ⟨o, ho, hc'⟩ isSubtype_stop ?_)
    exact wpAny_pure ⟨rfl, I.turned (t' := s.toks) (fun b o hb q => he' b o hb q) f0 f1 f3 f4 f5⟩
  self := fun A i s Q E st h => let ⟨⟨_, he⟩, _⟩ := st; wpAny_pyIter_enum he h
def iEnumT (K : PySem.W.Frag) (ta : TA) : TI := fun σ H R => ta σ H fun vs H1 => ∃ a xs, vs = [.ref a] ∧ SqT K H1 a xs ∧ R (IteT K a) H1
theorem pi_enumT {X : Cx} {e : Expr} {ta : TA} {p pos tpos : Pos} {elts : List Expr} {kk : Nat} (hg : Gl X "enumerate") (hm : X.mg "enumerate" = none) (ha : PA X [e] ta) (hs : starEach [e] X.env = [(false, eval e X.env)] := by rfl) :
    PI X (.Tuple elts kk tpos) (.Call (.Name "enumerate" p) [e] [] pos) (iEnumT X.K ta) := by
  refine ⟨fun pins s σ H R I h => ?_⟩
  refine Call_ (ld_blt I hg hm boot_enumerate (PyProof.Rows.callWith_type1 (thn (ha.run pos pins s σ H _ I h) fun us s1 ⟨vs, H1, I1, r1, q1⟩ => ?_) hs rfl))
  obtain ⟨a, xs, ex, hq, q⟩ := q1
  subst ex
  cases r1 with
  | cons r rr =>
    cases rr
    cases r
    obtain ⟨its, rv, p', hz⟩ := I1.tuple hq
    have hal : a < s1.heap.objs.size := let ⟨_, e, _⟩ := p'; Heap.lt_size e
    refine enum_begins1 (begins_tuple a its.toArray) p' fun h' he hit hsz hk => wpAny_pyIter_enum he ?_
    have I2 : Inv X pins σ H1 { s1 with heap := h' } := I1.kept (t' := s1.toks) hk
    refine ⟨s1.heap.objs.size + 1, [s1.heap.objs.size + 1, s1.heap.objs.size], _, _, H1, rfl, I2, turn_enumT a (s1.heap.objs.size + 1) s1.heap.objs.size, ⟨⟨.none, he⟩, ⟨_, hit, rfl, rfl⟩, Nat.succ_ne_self _, Nat.ne_of_lt hal, Nat.ne_of_lt (Nat.lt_succ_of_lt hal)⟩, fun b hb => ?_, q⟩
    have e' : b = s1.heap.objs.size + 1 ∨ b = s1.heap.objs.size := by simpa using hb
    have hle : s1.heap.objs.size ≤ b := by
      rcases e' with z | z
      · rw [z]; exact Nat.le_add_right _ _
      · rw [z]; exact Nat.le_refl _
    exact I1.fpOk hle (I1.hok.fresh hle)
section
variable {X : Cx} {e : Expr} {t : AA} {p pos tpos : Pos} {elts : List Expr} {kk : Nat}
def iEnumTA (t : AA) : AI := fun ρ M P EX => t ρ M (fun ds M1 => ∃ l, ds = [.tup l] ∧ P (enumD l) M1) EX
theorem di_enumT (hm : X.mg "enumerate" = none) (ha : DenA X [e] t) (hg : Gl X "enumerate" := by rfl) (hs : starEach [e] X.env = [(false, eval e X.env)] := by rfl) : DenI X (.Tuple elts kk tpos) (.Call (.Name "enumerate" p) [e] [] pos) (iEnumTA t) :=
  ⟨fun F ρ M P EX W σ H R S tk h hP hX => fun pins s I => (pi_enumT hg hm (pa_gw (X := X)) hs).run pins s σ H R I
    (ha.run F ρ M _ EX W σ H _ S tk h (fun vs ds M1 H1 s1 m1 dv q => by
      obtain ⟨l, rfl, q⟩ := q
      cases dv with
      | cons d1 d2 =>
        cases d2
        obtain ⟨a, xs, rfl, hA, kA⟩ := d1.seqU
        refine ⟨a, xs, rfl, hA, hP _ _ M1 H1 s1 m1 (fun F' H' M' s' f' m' => ?_) q⟩
        obtain ⟨h1, h2⟩ := kA F' H' M' s' f'
        refine ⟨fun i d e => ?_, ⟨xs, h1, by rw [enumD_length]; exact Nat.le_of_eq h2.length⟩⟩
        obtain ⟨x, ex, rfl⟩ := enumD_get e
        obtain ⟨v, ev, dx⟩ := h2.get ex
        refine ⟨⟨xs, v, h1, ev⟩, fun y H2 z => ?_⟩
        obtain ⟨T, w, rfl, hT, rfl, hw⟩ := z
        have := hw xs h1
        rw [ev] at this; cases this
        exact new_tup m' hT (.cons (.int _) (DVs.one dx))) hX)⟩
end
end Ab
set_option maxRecDepth 100000
set_option maxHeartbeats 4000000
/-! Ab15: a caught exception that is kept; isinstance and own classes; keyword-only parameters. -/
namespace Ab
open PySem PySem.Spec L2 PyProof.Rows
section
variable {X : Cx} {pins : List (Addr × Obj)} {σ : L2.St} {H : Hp} {s : Shared}
/-- an object of ours, pinned and not tracked, new since the entry: from here on tracked -/
theorem Inv_track {a : Addr} {oe : Obj} {φ : Heap → Prop} (I : L2.Inv X ((a, oe) :: pins) σ H s) (h0 : X.s_0.heap.get? a = none) (hp : ∀ p ∈ X.pn ++ pins, p.1 ≠ a) (hφ : φ s.heap) (hs : ∀ h1 h2 : Heap, φ h1 → (∀ o, h1.get? a = some o → h2.get? a = some o) → φ h2) :
    L2.Inv X pins σ (upd H a (.ext φ)) s := by
  obtain ⟨e, na, nL, nF, nc⟩ := I.pin (a, oe) (List.mem_append_right _ List.mem_cons_self)
  have ne : ∀ {b : Addr} {o : Obj}, X.s_0.heap.get? b = some o → b ≠ a := fun {b o} q z => by rw [z, h0] at q; cases q
  refine ⟨I.ok, I.os, I.bare, ⟨I.base.keep, I.base.slot, fun b o q n hx => ?_, I.base.there, fun b xs q => ?_, fun b o u q => ?_, fun b ps q => ?_⟩, I.loc, I.cell, ?_, fun x c q => ?_, fun p hm => ?_, ?_, I.len⟩
  · rw [upd_ne (ne q)]; exact I.base.free b o q n hx
  · have z := I.base.tups b xs q
    rw [upd_ne (ne_of_none z na)]; exact z
  · have z := I.base.frzs b o u q
    rw [upd_ne (ne_of_none z na)]; exact z
  · obtain ⟨more, z⟩ := I.base.tbls b ps q
    exact ⟨more, by rw [upd_ne (ne_of_none z na)]; exact z⟩
  · rw [upd_ne (Ne.symm nL)]; exact I.free
  · have nca : c ≠ a := fun z => by
      obtain ⟨v, w⟩ := I.cell x c q
      rw [z] at w
      obtain ⟨o, q1, q2⟩ := w
      rw [e] at q1; cases q1
      exact nc _ q2
    rw [upd_ne nca]; exact I.freeC x c q
  · have hm' : p ∈ X.pn ++ (a, oe) :: pins := by
      rcases List.mem_append.mp hm with z | z
      · exact List.mem_append_left _ z
      · exact List.mem_append_right _ (List.mem_cons_of_mem _ z)
    obtain ⟨q1, q2, q3⟩ := I.pin p hm'
    exact ⟨q1, by rw [upd_ne (hp p hm)]; exact q2, q3⟩
  · exact HOk.laidN I.hok (fun b u q => q) na ⟨hφ, ⟨oe, e⟩, hs⟩
end

/-- an exception object of the class cls, its dict d -/
def ExT (cls : Value) (d : Option Addr) (a : Addr) : HO := .ext fun h => ∃ (oe : Obj) (vs : Array Value), h.get? a = some oe ∧ Zc cls d oe ∧ oe.data = .fields vs
/-- what the clause 'except x as n' wishes, the exception kept behind its suite -/
def wAsK (K : PySem.W.Frag) (c : Value) (i : Nat) (ts : Addr → Value → Option Addr → TS) (Wout : WX) (D : Ends) : WX := fun cls d σ H =>
  ∃ b, PySem.W.exmOne K cls c = some b ∧ (b = true → ∀ a, H a = none → ts a cls d { nx := fun σ' H' => D.nx (σ'.set i none) (upd H' a (ExT cls d a)), rt := fun v H' => D.rt v (upd H' a (ExT cls d a)), bk := fun σ' H' => D.bk (σ'.set i none) (upd H' a (ExT cls d a)), ct := fun σ' H' => D.ct (σ'.set i none) (upd H' a (ExT cls d a)) } (σ.set i (some (.ref a))) H) ∧
    (b = false → Wout cls d σ H)
section
variable {X : Cx} {x n : Str} {c : Value} {i : Nat} {body suite : List Stmt} {b₀ : Stmt} {np pos pos' : Pos} {tb : WX → TS} {ts : Addr → Value → Option Addr → TS} {Wout : WX}
theorem ps_try_kept (hx : X.ex = []) (hs : X.stack = X.env :: X.outer) (hf : X.env.frame = some X.env.locals) (hN : X.N.Nodup) (hi : X.N[i]? = some n) (hln : X.env.kindOf n = some .local) (hc : Names X x c) (tk : Takes X Wout)
    (hb : ∀ (W : WX) (pn : List (Addr × Obj)) (xe : Value → Shared → Prop), Takes (X.tr pn xe) W → PassesOwn (model X.prog X.w) X.A X.env xe → PSs (X.tr pn xe) body (tb W))
    (hsu : ∀ (a : Addr) (oe : Obj) (cls : Value) (d : Option Addr) (pn : List (Addr × Obj)), Zc cls d oe → (∃ vs, oe.data = .fields vs) → PSs (X.suite a ((a, oe) :: pn)) (b₀ :: suite) (ts a cls d)) :
    PS X (.Try body [.ExceptHandler (some (.Name x np)) (some n) (b₀ :: suite) pos'] [] [] pos) (fun D σ H => tb (wAsK X.K c i ts Wout D) D σ H) := by
  refine ⟨fun pins s σ H D I h => ?_⟩
  have ok := I.ok
  have hfr : X.A.frames = some (X.env :: X.outer) := by rw [ok.frames, hs]
  have hloc : Loc X.env.scope n := .inl hln
  refine wpAny_Try_except ?_
  refine wpAny_mono ((hb (wAsK X.K c i ts Wout D) (X.pn ++ pins) (fun e s₁ => wpAny (model X.prog X.w) X.A (noteFrame e X.env) (fun _ s₂ => wpAny (model X.prog X.w) X.A (setFlight e none) (fun _ s₃ =>
    wpAny (model X.prog X.w) X.A (handleBy e X.env [.ExceptHandler (some (.Name x np)) (some n) (b₀ :: suite) pos']) (SP X pins D) X.xe s₃) X.xe s₂) X.xe s₁) (fun u s' xx => ?_) PassesOwn.looking).run [] s σ H D (I.toTry _) h) (fun f s1 hsp => ?_) (fun e s1 he => he)
  · -- the catch
    obtain ⟨a, B, sI, pins', σ', H', cls, d, rfl, J', nb, up, sky, na, os, ag, b, hb1, hyes, hno⟩ := xx
    have J : Inv X pins σ' H' sI := J'.ofTry ok
    have sky' : Sky B (X.env :: X.outer) a (Zc cls d) X.env.locals s'.heap := by rw [← hs]; exact sky
    show wpAny (model X.prog X.w) X.A (noteFrame (.ref a) X.env) _ _ _
    refine Sky.land Zc.steady hfr hf sky' fun h3 fl3 up3 => ?_
    have J3 : Inv X pins σ' H' { s' with heap := h3 } := J.landed nb fl3.1 (up.trans up3) os ag
    obtain ⟨oe3, vs3, he3, hz3, hd3⟩ := fl3.there
    have notFr : ∀ {h : Heap} {o : Obj} {vs : Array Value}, h.FunFrames B (X.env :: X.outer) → h.get? a = some o → o.data = .fields vs → a ∉ frs (X.env :: X.outer) := fun {h o vs} ff e dd hm => by
      obtain ⟨_, o', e', hnf⟩ := ff.mem hm
      rw [e] at e'; cases e'
      exact hnf _ dd
    have nfr := notFr fl3.2.2.1 he3 hd3
    have nL : a ≠ X.env.locals := fun z => nfr (List.mem_filterMap.mpr ⟨X.env, List.mem_cons_self, by rw [hf, z]⟩)
    have nF : a ∉ X.fs := fun hm => by
      obtain ⟨e, he, q⟩ := List.mem_filterMap.mp hm
      exact nfr (List.mem_filterMap.mpr ⟨e, List.mem_cons_of_mem _ he, q⟩)
    have S3 := J3.suite he3 hd3 na nL nF
    refine wpAny_handleBy_cons (codeAny_handlers_test ?_) (by intro q; cases q)
    have LT : PySem.W.Looks (model X.prog X.w) h3 (typeOf (.ref a)) cls := fun A Q E s k q => wpAny_typeOf_ref (k _ _ he3) (by rw [hz3.1]; exact q)
    have LM := PySem.W.exm_one (M := model X.prog X.w) (J3.kIn) LT hb1
    have test : ∀ {Q : Value → Shared → Prop} {E : Value → Shared → Prop}, Q c { s' with heap := h3 } → wpAny (model X.prog X.w) (X.A.mark (some (.ref a))) (eval (.Name x np) X.env) Q E { s' with heap := h3 } := fun {Q E} q => by
      obtain ⟨hg, hdbg, hm | ⟨hm, hv, hnn⟩⟩ := hc
      · exact ld_glob (X := X.suite a ((a, oe3) :: (X.pn ++ pins))) S3 hg hm q hdbg
      · exact ld_blt (X := X.suite a ((a, oe3) :: (X.pn ++ pins))) S3 hg hm hv q hnn hdbg
    refine test (LM.here ?_)
    cases b with
    | true =>
      refine codeAny_handlers_suite_as ?_
      refine HandSPX.lands_againZ fl3 fun h4 fl4 up4 => ?_
      have J4 : Inv X pins σ' H' { s' with heap := h4 } := J.landed nb fl4.1 ((up.trans up3).trans up4) os ag
      obtain ⟨oe4, vs4, he4, hz4, hd4⟩ := fl4.there
      have S4 := J4.suite he4 hd4 na nL nF
      refine store_ok (X := X.suite a ((a, oe4) :: (X.pn ++ pins))) (v := .ref a) S4 hN hi hloc rfl (fun s5 S5 => ?_) (.inr hln)
      refine wpAny_mono ((hsu a oe4 cls d (X.pn ++ pins) hz4 ⟨_, hd4⟩).run [] s5 _ H' _ S5 (hyes rfl a na)) (fun f s6 hsp => ?_) (fun _ _ z => False.elim z)
      -- a is new since the entry
      have nI : sI.heap.get? a = none := by
        cases q : sI.heap.get? a with
        | none => rfl
        | some o =>
          have nfs : a ∉ frs X.stack := by rw [hs]; exact nfr
          have z := nb a o q nfs
          rcases sky' with ⟨_, b0, _⟩ | b0 | b0
          · rw [b0] at z; cases z
          · rw [b0.2.1] at z; cases z
          · rw [b0.2.1] at z; cases z
      have n0 : X.s_0.heap.get? a = none := by
        cases q : X.s_0.heap.get? a with
        | none => rfl
        | some o =>
          obtain ⟨o', z⟩ := J.base.there a o q (by rw [hx]; exact List.not_mem_nil)
          rw [nI] at z; cases z
      have npin : ∀ p ∈ X.pn ++ pins, p.1 ≠ a := fun p hp z => by
        have := (J.pin p hp).1
        rw [z, nI] at this; cases this
      have end_ : ∀ {σ6 : L2.St} {H6 : Hp} {Q : Shared → Prop}, L2.Inv (X.suite a ((a, oe4) :: (X.pn ++ pins))) [] σ6 H6 s6 → (∀ s7, L2.Inv X pins (σ6.set i none) (upd H6 a (ExT cls d a)) s7 → Q s7) →
          wpAny (model X.prog X.w) X.A (do bindName X.env n .none; unbindBehindTheSuite X.env n pos') (fun _ s7 => Q s7) X.xe s6 := fun {σ6 H6 Q} S6 hq => by
        have S7 : L2.Inv X ((a, oe4) :: pins) σ6 H6 s6 := ⟨ok, S6.os, S6.bare, S6.base, S6.loc, S6.cell, S6.free, S6.freeC, fun p hp => by
          refine S6.pin p (List.mem_append_left _ ?_)
          rcases List.mem_append.mp hp with z | z
          · exact List.mem_cons_of_mem _ (List.mem_append_left _ z)
          · rcases List.mem_cons.mp z with z | z
            · rw [z]; exact List.mem_cons_self
            · exact List.mem_cons_of_mem _ (List.mem_append_right _ z), S6.hok, S6.len⟩
        refine gone_ok S7 hN hi hln fun s7 S8 => hq s7 (Inv_track S8 n0 npin ?_ ?_)
        · exact ⟨oe4, vs4, (S8.pin (a, oe4) (List.mem_append_right _ List.mem_cons_self)).1, hz4, hd4⟩
        · rintro h1 h2 ⟨o, vs, e, z, dd⟩ k
          exact ⟨o, vs, k _ e, z, dd⟩
      cases f with
      | next =>
        obtain ⟨σ6, H6, S6, q6⟩ := hsp
        exact end_ S6 fun s7 J7 => ⟨_, _, J7, q6⟩
      | brk =>
        obtain ⟨σ6, H6, S6, q6⟩ := hsp
        exact end_ S6 fun s7 J7 => ⟨_, _, J7, q6⟩
      | cont =>
        obtain ⟨σ6, H6, S6, q6⟩ := hsp
        exact end_ S6 fun s7 J7 => ⟨_, _, J7, q6⟩
      | ret u =>
        obtain ⟨v6, σ6, H6, S6, r6, q6⟩ := hsp
        exact end_ S6 fun s7 J7 => ⟨_, _, _, J7, r6, q6⟩
    | false =>
      show wpAny _ X.A (handleBy (.ref a) X.env []) _ _ _
      refine wpAny_handleBy_nil ?_
      obtain ⟨k1, k2, k3, oe, vs, T, oT, ts', he, hz, hd, h1, hr⟩ := id fl3
      unfold PySem.passOn
      refine wpAny_bind (wpAny_field he hd h1 ?_)
      rw [if_neg (show ¬ ((Value.ref T == Value.none) = true) from by simp)]
      have fin : wpAny (model X.prog X.w) X.A (setFlight (.ref a) X.env.frame) (fun _ s4 => wpAny (model X.prog X.w) X.A (throw (.ref a) : Sem Flow) (SP X pins D) X.xe s4) X.xe { s' with heap := h3 } := by
        rw [hf]
        refine HandSPX.setFlight_upZ fl3 fun h4 hh4 up4 => wpAny_throw (tk _ _ ?_)
        exact ⟨a, B, sI, pins, σ', H', cls, d, rfl, J, nb, (up.trans up3).trans up4, .inr (.inr (by rw [hs]; exact hh4)), na, os, ag, hno rfl⟩
      first
        | exact wpAny_bind (wpAny_pure (wpAny_bind fin))
        | exact wpAny_bind fin
  · cases f with
    | next =>
      obtain ⟨σ', H', J', q⟩ := hsp
      exact wpAny_execs_nil ⟨σ', H', J'.ofTry ok, q⟩
    | brk =>
      obtain ⟨σ', H', J', q⟩ := hsp
      exact ⟨σ', H', J'.ofTry ok, q⟩
    | cont =>
      obtain ⟨σ', H', J', q⟩ := hsp
      exact ⟨σ', H', J'.ofTry ok, q⟩
    | ret u =>
      obtain ⟨v, σ', H', J', r, q⟩ := hsp
      exact ⟨v, σ', H', J'.ofTry ok, r, q⟩
end
/-- try: body / except x as n: y = n; the exception kept -/
def aTryK (i j : Nat) (yes no : List Addr) (t : AS) : AS := fun ρ M k => t ρ M { k with ex := fun xe ρ' M' =>
  (xe.cls ∈ yes ∧ xe.fs = none ∧ i < ρ'.length ∧ j < ρ'.length ∧ k.nx (unS (sS ρ' j (.exc xe.cls)) i) M') ∨ (xe.cls ∈ no ∧ k.ex xe ρ' M') }
section
variable {X : Cx} {x n y : Str} {i j : Nat} {cl : Addr} {body : List Stmt} {np p1 p2 pos pos' pos2 : Pos} {t : AS} {yes no : List Addr}
theorem ds_tryKeep (hc : Names X x (.ref cl)) (hb : ∀ (pn : List (Addr × Obj)) (xe : Value → Shared → Prop), PassesOwn (model X.prog X.w) X.A X.env xe → DenB (X.tr pn xe) body t)
    (hyes : ∀ C ∈ yes, PySem.W.exmOne X.K (.ref C) (.ref cl) = some true) (hno : ∀ C ∈ no, PySem.W.exmOne X.K (.ref C) (.ref cl) = some false) (hN : X.N.Nodup)
    (hx : X.ex = [] := by rfl) (hs : X.stack = X.env :: X.outer := by rfl) (hf : X.env.frame = some X.env.locals := by rfl) (hi : X.N[i]? = some n := by rfl) (hln : X.env.kindOf n = some .local := by rfl)
    (hj : X.N[j]? = some y := by rfl) (hly : X.env.kindOf y = some .local := by rfl) (hy : Loc X.env.scope y := by exact .inl rfl) (hij : i ≠ j := by decide) (hvn : Vis X.env.scope n := by first | exact Or.inl rfl | exact Or.inr (Or.inl rfl) | exact Or.inr (Or.inr rfl))
    (hd : (n == ("__debug__" : Str)) = false := by decide) (hcd : (n == ("__classdict__" : Str)) = false := by decide)
    (hsw : ∀ a pn, swapsWith (.Name n p2) (some (.Name y p1)) pos2.line (X.suite a pn).env = pure false := by intro _ _; rfl) (hfy : ∀ a pn, (X.suite a pn).fn y = true ∨ (X.suite a pn).env.scope.names.lookup y = some .local := by intro _ _; exact .inr rfl) :
    DenS X (.Try body [.ExceptHandler (some (.Name x np)) (some n) [.Assign [.Name y p1] (.Name n p2) pos2] pos'] [] [] pos) (aTryK i j yes no t) :=
  ⟨fun F ρ M k W σ H D S tk h L => fun pins s I => by
    refine (ps_try_kept (X := X) (tb := fun W' D σ H => ∀ (pn : List (Addr × Obj)) (xe : Value → Shared → Prop), Takes (X.tr pn xe) W' → PassesOwn (model X.prog X.w) X.A X.env xe → BW (X.tr pn xe) body D σ H)
      (ts := fun _ _ _ => tAsg (tVar i) (gName j)) (Wout := W) hx hs hf hN hi hln hc tk (fun W' pn xe tk' hp => ⟨fun pins s σ H D I h => h pn xe tk' hp pins s I⟩)
      (fun a oe cls d pn hz hv => pss_one (ps_set hN hj hy (pe_var hi hvn hd hcd) (hsw _ _) (hfy _ _)))).run pins s σ H D I ?_
    intro pn xe tk' hp
    refine (hb pn xe hp).run F ρ M _ _ σ H D ⟨S.sl, S.ms⟩ tk' h ⟨fun ρ' M' σ' H' s S' q => L.nx ρ' M' σ' H' s ⟨S'.sl, S'.ms⟩ q, L.rt, fun ρ' M' σ' H' s S' q => L.bk ρ' M' σ' H' s ⟨S'.sl, S'.ms⟩ q, fun ρ' M' σ' H' s S' q => L.ct ρ' M' σ' H' s ⟨S'.sl, S'.ms⟩ q, fun e ρ' M' cls d σ' H' s S' xv q => ?_⟩
    obtain ⟨ecls, efs⟩ := xv
    subst ecls
    rcases q with ⟨hm, e0, l1, l2, q⟩ | ⟨hm, q⟩
    · rw [e0] at efs
      have efs' : d = none := efs
      subst efs'
      refine ⟨true, hyes _ hm, fun _ a ha => ?_, (fun z => Bool.noConfusion z)⟩
      have len := S'.sl.len
      refine ⟨.ref a, by rw [List.getElem?_set_self (by omega)], ?_⟩
      have na : a ∉ um F M' := S'.ms.notin ha
      have st : Step H' M' (upd H' a (ExT (.ref e.cls) none a)) M' := step_new ha
      refine L.nx _ M' _ _ (s.trans st) ⟨⟨?_, fun q0 d0 e1 => ?_⟩, mst_new S'.ms ha⟩ q
      · rw [unS_set, sS_set]
        simp only [List.length_set]
        exact len
      · rw [unS_set, sS_set] at e1
        by_cases c1 : q0 = i
        · subst c1
          rw [List.getElem?_set_self (by simpa using l1)] at e1
          cases e1
        · rw [List.getElem?_set_ne (Ne.symm c1)] at e1
          rw [List.getElem?_set_ne (Ne.symm c1)]
          by_cases c2 : q0 = j
          · subst c2
            rw [List.getElem?_set_self l2] at e1
            cases e1
            exact ⟨.ref a, by rw [List.getElem?_set_self (by rw [List.length_set]; omega)], .exc upd_same na⟩
          · rw [List.getElem?_set_ne (Ne.symm c2)] at e1
            obtain ⟨v, w1, w2⟩ := S'.sl.at_ q0 d0 e1
            exact ⟨v, by rw [List.getElem?_set_ne (Ne.symm c2), List.getElem?_set_ne (Ne.symm c1)]; exact w1, w2.step st⟩
    · exact ⟨false, hno _ hm, (fun z => Bool.noConfusion z), fun _ => L.ex e ρ' M' _ d σ' H' s ⟨S'.sl, S'.ms⟩ ⟨rfl, efs⟩ q⟩⟩
end
end Ab
set_option maxRecDepth 100000
set_option maxHeartbeats 4000000
/-! Ab16: isinstance of a kept exception; keyword-only parameters without other defaults. -/
namespace Ab
open PySem PySem.Spec L2 PyProof.Rows
section
variable {X : Cx}
theorem exk_at {pins : List (Addr × Obj)} {σ : L2.St} {H : Hp} {s : Shared} {a D : Addr} (I : L2.Inv X pins σ H s) (e : H a = some (ExK D a)) : ∃ oe, PySem.W.InstAt s.heap a oe D none := by
  obtain ⟨⟨oe, vs, hget, ⟨h1, h2⟩, hv⟩, _⟩ := (show ObjOk X.prog X.w H s.heap a (ExK D a) from I.hok a _ e)
  refine ⟨oe, ?_⟩
  obtain ⟨oc, od, oda, osl⟩ := oe
  dsimp only at h1 h2 hv
  subst h1 h2 hv
  exact ⟨hget, rfl, rfl, trivial⟩
theorem call_isiX : CallR X (.builtin "isinstance") (fun xs H Q => ∃ (a D : Addr) (c : V) (cv : Value) (b : Bool), xs = [.ref a, c] ∧ H a = some (ExK D a) ∧ ExcC X.K D ∧ ClsV c cv ∧ PySem.W.kitOne X.K (.ref D) cv = some b ∧ Q (.bl b) H) := by
  intro pins s σ H xs us Q I r h
  obtain ⟨a, D, c, cv, b, rfl, e, C, k, hk, q⟩ := h
  obtain ⟨u1, u2, rfl, r1, r2⟩ := vals2 r
  cases r1
  have e2 := k.eq r2
  subst e2
  obtain ⟨oe, J⟩ := exk_at I e
  exact PySem.W.kia_one (PySem.W.handS_kitx_exc C.hg C.hk C.hs C.hd C.ha C.hn C.ht C.hm) I.kIn J hk (fun z => nomatch z) fun tk => ⟨.bl b, H, I.kept (t' := tk) fun _ _ z => z, rfl, q⟩
theorem call_isiXT : CallR X (.builtin "isinstance") (fun xs H Q => ∃ (a D tp : Addr) (cs : List V) (us : List Value) (b : Bool), xs = [.ref a, .ref tp] ∧ H a = some (ExK D a) ∧ ExcC X.K D ∧ SqT X.K H tp cs ∧ Paired ClsV cs us ∧ PySem.W.kitAny X.K (.ref D) us = some b ∧ Q (.bl b) H) := by
  intro pins s σ H xs us Q I r h
  obtain ⟨a, D, tp, cs, ws, b, rfl, e, C, hT, k, hk, q⟩ := h
  obtain ⟨u1, u2, rfl, r1, r2⟩ := vals2 r
  cases r1
  cases r2
  obtain ⟨oe, J⟩ := exk_at I e
  obtain ⟨its, rv, ⟨o, h1, h2, n, h3⟩, _⟩ := I.tuple hT
  have e3 := ClsV.all k rv
  subst e3
  obtain ⟨oc, od, dt, sl⟩ := o
  simp only at h2 h3
  subst h2 h3
  exact PySem.W.kia_tup (PySem.W.handS_kitx_exc C.hg C.hk C.hs C.hd C.ha C.hn C.ht C.hm) I.kIn J h1 hk (fun z => nomatch z) fun tk => ⟨.bl b, H, I.kept (t' := tk) fun _ _ z => z, rfl, q⟩
/-- isinstance(x, C), isinstance(x, (C1, ..)): x a kept exception; tab: the classes' answers -/
inductive IsiXA (tab : List (Addr × List Addr × Bool)) : AC
  | one {C c : Addr} {b : Bool} {M : Mem} {P : AK} : (C, [c], b) ∈ tab → P (.bl b) M → IsiXA tab [.exc C, .ref c] M P
  | tup {C : Addr} {cs : List Addr} {b : Bool} {M : Mem} {P : AK} : (C, cs, b) ∈ tab → P (.bl b) M → IsiXA tab [.exc C, .tup (cs.map D.ref)] M P
theorem cls_refs {K : PySem.W.Frag} {H : Hp} {U : List Addr} : ∀ {cs : List Addr} {vs : List V}, DVs K H U vs (cs.map D.ref) → Paired ClsV vs (cs.map Value.ref)
  | [], _, .nil => .nil
  | c :: cs, _, .cons a b => by cases a; exact .cons (.own c) (cls_refs b)
theorem okc_isiX {tab : List (Addr × List Addr × Bool)} (h : ∀ t ∈ tab, ExcC X.K t.1 ∧ PySem.W.kitAny X.K (.ref t.1) (t.2.1.map Value.ref) = some t.2.2) (h1 : ∀ t ∈ tab, ∀ c, t.2.1 = [c] → PySem.W.kitOne X.K (.ref t.1) (.ref c) = some t.2.2) : OkC X (.builtin "isinstance") (IsiXA tab) := fun F ds vs M P H Q m dv hh hP => by
  cases hh with
  | one ht q =>
    cases dv with
    | cons d1 d2 =>
      cases d2 with
      | cons d2 d3 =>
        cases d3
        cases d1 with
        | exc e hn =>
          cases d2
          exact ⟨_, call_isiX, _, _, _, _, _, rfl, e, (h _ ht).1, .own _, h1 _ ht _ rfl, hP _ _ M H (Step.refl H M) m (.bl _) q⟩
  | tup ht q =>
    cases dv with
    | cons d1 d2 =>
      cases d2 with
      | cons d2 d3 =>
        cases d3
        cases d1 with
        | exc e hn =>
          obtain ⟨tp, xs, rfl, hT, t⟩ := d2.tup_inv
          exact ⟨_, call_isiXT, _, _, _, _, _, _, rfl, e, (h _ ht).1, hT, cls_refs t, (h _ ht).2, hP _ _ M H (Step.refl H M) m (.bl _) q⟩
end

/-! ### keyword-only parameters -/
section
variable {P : Program} {w : World} {K : PySem.W.Frag} {mg : Str → Option Value} {base : Heap} {x qual : Str} {params : Arguments} {body : List Stmt} {scope : Scope} {dvs : List V} {kws : List (Str × V)} {f : Addr} {fd : FuncData} {ps : List Str}
/-- no defaults but of keyword-only parameters; ks: the keywords given, ms: those that lack -/
theorem kbinds0 (F : FunD K x qual params body scope [] kws f fd) (n : Nat) (ks : List Str) (ms : List (Str × V)) (g : {α : Type} → List α → List α → List α → List α) (hk : kws ≠ []) (hms : ∀ q ∈ ms, q ∈ kws)
    (hrel : ∀ {vs mz zs : List V} {us mv ws : List Value}, Vals vs us → Vals mz mv → Vals zs ws → Vals (g vs mz zs) (g us mv ws))
    (h : ∀ (D : Addr) (doc pm : Value) (an : Option Addr) (cdv ct : Value) (us mv ws : List Value), us.length = n → mv.length = ms.length → ws.length = ks.length →
      KwChain D ((ms.map (·.1)).zip mv) (bindArgs (PySem.W.fnOf x qual params body scope .none (.ref D) doc pm an cdv ct) ⟨us, ks.zip ws⟩) (ps.zip (g us mv ws))) :
    ∃ mv : List Value, KBn K fd ps n ks (fun us ws => g us mv ws) (fun vs zs => g vs (ms.map (·.2)) zs) := by
  obtain ⟨oc, od, dV, kV, doc, pm, an, cdv, ct, osl, rfl, lk, hcd, hD, hK⟩ := F.ex
  rcases hD with ⟨_, rfl⟩ | ⟨e, _⟩
  · rcases hK with e | ⟨D, rfl, hq⟩
    · exact absurd e hk
    · obtain ⟨mv, hl, rk, hks⟩ := kwd_vals (ms := ms) fun q hm => hq q (hms q hm)
      refine ⟨mv, ⟨fun s us ws X l1 l2 => ?_, fun r1 r2 => hrel r1 rk r2⟩⟩
      exact BindsTo.of_looks fun M => KwChain.looks X hks (h D doc pm an cdv ct us mv ws l1 hl l2)
  · exact absurd rfl e
theorem kb_n {n : Nat} {ks : List Str} {gU : List Value → List Value → List Value} {gV : List V → List V → List V} {g : List D → List D → List D} (B : KBn K fd ps n ks gU gV)
    (hD : ∀ (H : Hp) (U : List Addr) (vs zs : List V) (ds es : List D), vs.length = n → zs.length = ks.length → DVs K H U vs ds → DVs K H U zs es → DVs K H U (gV vs zs) (g ds es)) : KB K fd ps ks n ks.length g :=
  ⟨gV, gU, fun s us ws X l1 l2 => B.to s us ws X l1 l2, fun vs zs us ws _ _ r1 r2 => B.rel r1 r2, fun H U vs zs ds es l1 l2 d1 d2 => hD H U vs zs ds es l1 l2 d1 d2⟩
/-- an __init__: self goes ahead -/
theorem km_n {n : Nat} {ks : List Str} {gU gU' : List Value → List Value → List Value} {gV gV' : List V → List V → List V} {g : List D → List D → List D} (B : KBn K fd ps (n + 1) ks gU gV)
    (eU : ∀ u us ws, gU (u :: us) ws = u :: gU' us ws) (eV : ∀ v vs zs, gV (v :: vs) zs = v :: gV' vs zs)
    (hD : ∀ (H : Hp) (U : List Addr) (vs zs : List V) (ds es : List D), vs.length = n → zs.length = ks.length → DVs K H U vs ds → DVs K H U zs es → DVs K H U (gV' vs zs) (g ds es)) : KM K fd ps ks n ks.length g :=
  ⟨gV', gU', fun s x us ws X l1 l2 => by rw [← eU]; exact B.to s (.ref x :: us) ws X (by rw [List.length_cons, l1]) l2, fun vs zs us ws _ _ r1 r2 => by
    have := B.rel (vs := .ref 0 :: vs) (us := .ref 0 :: us) (.cons rfl r1) r2
    rw [eU, eV] at this
    cases this with
    | cons _ t => exact t, fun H U vs zs ds es l1 l2 d1 d2 => hD H U vs zs ds es l1 l2 d1 d2⟩
end
end Ab
set_option maxRecDepth 100000
set_option maxHeartbeats 4000000
/-! Ab17: sorted over data; repr of data. -/
namespace Ab
open PySem PySem.Spec L2 PyProof.Rows
abbrev SB := V × D × PyData
section
variable {X : Cx}
theorem eachIs_paired {α β : Type} {R : α → β → Prop} : ∀ {as : List α} {bs : List β}, PySem.W.EachIs R as bs → Paired (fun b a => R a b) bs as
  | _, _, .nil => .nil
  | _, _, .cons h t => .cons h (eachIs_paired t)
theorem paired_eachIs {α β : Type} {R : β → α → Prop} : ∀ {bs : List β} {as : List α}, Paired R bs as → PySem.W.EachIs (fun a b => R b a) as bs
  | _, _, .nil => .nil
  | _, _, .cons h t => .cons h (paired_eachIs t)
theorem vals_paired : ∀ {bs : List SB} {us : List Value}, Vals (bs.map (·.1)) us → Paired (fun b v => RelV b.1 v) bs us
  | [], _, h => by cases h; exact .nil
  | b :: bs, _, h => by
    rw [List.map_cons] at h
    cases h with
    | cons a t => exact .cons a (vals_paired t)
theorem paired_vals : ∀ {bs : List SB} {us : List Value}, Paired (fun b v => RelV b.1 v) bs us → Vals (bs.map (·.1)) us
  | [], _, h => by cases h; exact .nil
  | b :: bs, _, h => by
    cases h with
    | cons a t => exact .cons a (paired_vals t)
theorem call_sortedP (hu : X.A.units + 200 < cLine) : CallR X (.builtin "sorted") (fun xs H Q => ∃ (a : Addr) (bs : List SB), xs = [.ref a] ∧ SqL X.K H a (bs.map (·.1)) ∧ (∀ b ∈ bs, Dp X.K H b.1 b.2.2 ∧ b.2.2.depth ≤ 60) ∧ PySem.W.AllAlike (bs.map (·.2.2)) ∧ PySem.W.Sortable (bs.map (·.2.2)) ∧
    ∀ p, H p = none → Q (.ref p) (upd H p (.lst ((bs.mergeSort (PySem.W.dataLe false (·.2.2))).map (·.1))))) := by
  intro pins s σ H xs us Q I r h
  obtain ⟨a, bs, rfl, hs, hd, hal, hk, q⟩ := h
  obtain ⟨its, rv, hl, hz⟩ := I.list hs
  rw [Vals.ref1 r]
  rw [List.length_map] at hz
  have pv := vals_paired rv
  have reads : ∀ {bs' : List SB} {us' : List Value}, Paired (fun b v => RelV b.1 v) bs' us' → (∀ b ∈ bs', Dp X.K H b.1 b.2.2 ∧ b.2.2.depth ≤ 60) → PySem.W.EachIs (fun v b => ∃ as, Reads s.heap v (b.2.2) as) us' bs' := by
    intro bs' us' p
    induction p with
    | nil => intro _; exact .nil
    | cons h _ ih => intro hd; exact .cons (Dp.reads I _ _ _ (hd _ List.mem_cons_self).1 h) (ih fun b hb => hd b (List.mem_cons_of_mem _ hb))
  refine PySem.W.sorted_data (R := fun v b => RelV b.1 v) (enc := fun b : SB => b.2.2) hl.isList (paired_eachIs pv) (reads pv hd) hal hk hz (fun b hb => by have := (hd b hb).2; omega) fun out ho eo => ?_
  obtain ⟨ep, he'⟩ := PyProof.Rows.sortedAll_at s.heap its out.toArray
  have ev := paired_vals (eachIs_paired eo)
  exact ⟨.ref _, upd H (s.heap.objs.size + 1) (.lst ((bs.mergeSort (PySem.W.dataLe false (·.2.2))).map (·.1))), I.laid (t' := s.toks) (fun _ _ => PyProof.Rows.sortedAll_old) (Nat.le_succ _) ⟨by rw [List.length_map, List.length_mergeSort]; exact hz, out, ep, ev, he'⟩, rfl, q _ (I.hok.fresh (Nat.le_succ _))⟩
/-- the data sorted by what they say -/
def sortD (l : List (D × PyData)) : List D := (l.mergeSort (PySem.W.dataLe false (·.2))).map (·.1)
inductive SortPA : AC
  | mk {x : D} {l : List D} {ps : List PyData} {M : Mem} {P : AK} : LstR M x l → Paired IsPy l ps → (∀ p ∈ ps, p.depth ≤ 60) → PySem.W.AllAlike ps → PySem.W.Sortable ps → P (.lst (sortD (l.zip ps))) M → SortPA [x] M P
theorem dvs_zip {K : PySem.W.Frag} {H : Hp} {U : List Addr} : ∀ {vs : List V} {l : List D} {ps : List PyData}, DVs K H U vs l → Paired IsPy l ps → ∃ bs : List SB, bs.map (·.1) = vs ∧ bs.map (fun b => (b.2.1, b.2.2)) = l.zip ps ∧ bs.map (·.2.2) = ps ∧ ∀ b ∈ bs, DV K H U b.1 b.2.1 ∧ IsPy b.2.1 b.2.2
  | _, _, _, .nil, .nil => ⟨[], rfl, rfl, rfl, fun _ h => nomatch h⟩
  | v :: vs, d :: ds, p :: ps, .cons a t, .cons b u => by
    obtain ⟨bs, e1, e2, e3, e4⟩ := dvs_zip t u
    refine ⟨(v, d, p) :: bs, by rw [List.map_cons, e1], by rw [List.map_cons, e2]; rfl, by rw [List.map_cons, e3], fun c hc => ?_⟩
    rcases List.mem_cons.mp hc with z | z
    · subst z; exact ⟨a, b⟩
    · exact e4 c z
theorem dvs_of {K : PySem.W.Frag} {H : Hp} {U : List Addr} : ∀ {bs : List SB}, (∀ b ∈ bs, DV K H U b.1 b.2.1) → DVs K H U (bs.map (·.1)) (bs.map (·.2.1))
  | [], _ => .nil
  | b :: bs, h => .cons (h b List.mem_cons_self) (dvs_of fun c hc => h c (List.mem_cons_of_mem _ hc))
theorem okc_sortP (hu : X.A.units + 200 < cLine) : OkC X (.builtin "sorted") SortPA := fun F ds vs M P H Q m dv h hP => by
  cases h with
  | @mk x l ps _ _ hs hp hd hal hk q =>
    cases dv with
    | cons d1 d2 =>
      cases d2
      obtain ⟨a, xs, rfl, e, t⟩ := hs.inv m d1
      obtain ⟨bs, e1, e2, e3, e4⟩ := dvs_zip t hp
      subst e1
      refine ⟨_, call_sortedP hu, a, bs, rfl, e, fun b hb => ⟨(e4 b hb).2.dp (e4 b hb).1, hd _ (by rw [← e3]; exact List.mem_map_of_mem (f := fun b : SB => b.2.2) hb)⟩, by rw [e3]; exact hal, by rw [e3]; exact hk, fun p hpn => ?_⟩
      have es : sortD (l.zip ps) = (bs.mergeSort (PySem.W.dataLe false (·.2.2))).map (·.2.1) := by
        unfold sortD
        rw [← e2]
        have := List.map_mergeSort (r := PySem.W.dataLe false (fun b : SB => b.2.2)) (s := PySem.W.dataLe false (fun b : D × PyData => b.2)) (f := fun b : SB => (b.2.1, b.2.2)) (l := bs) (fun _ _ _ _ => rfl)
        rw [← this, List.map_map]
        rfl
      have dvs := dvs_of (bs := bs.mergeSort (PySem.W.dataLe false (·.2.2))) (K := X.K) (H := H) (U := um F M) fun b hb => (e4 b ((List.mergeSort_perm _ _).mem_iff.mp hb)).1
      rw [← es] at dvs
      obtain ⟨s1, m1, dl⟩ := new_lst m hpn dvs
      exact hP _ _ M _ s1 m1 dl q
/-- .. the new list in memory -/
inductive SortPMA : AC
  | mk {x : D} {l : List D} {ps : List PyData} {M : Mem} {P : AK} : LstR M x l → Paired IsPy l ps → (∀ p ∈ ps, p.depth ≤ 60) → PySem.W.AllAlike ps → PySem.W.Sortable ps → (∀ q, q ∉ dom M → P (.ref q) (M ++ [(q, .lst (sortD (l.zip ps)))])) → SortPMA [x] M P
theorem okc_sortPM (hu : X.A.units + 200 < cLine) : OkC X (.builtin "sorted") SortPMA := fun F ds vs M P H Q m dv h hP => by
  cases h with
  | @mk x l ps _ _ hs hp hd hal hk q =>
    cases dv with
    | cons d1 d2 =>
      cases d2
      obtain ⟨a, xs, rfl, e, t⟩ := hs.inv m d1
      obtain ⟨bs, e1, e2, e3, e4⟩ := dvs_zip t hp
      subst e1
      refine ⟨_, call_sortedP hu, a, bs, rfl, e, fun b hb => ⟨(e4 b hb).2.dp (e4 b hb).1, hd _ (by rw [← e3]; exact List.mem_map_of_mem (f := fun b : SB => b.2.2) hb)⟩, by rw [e3]; exact hal, by rw [e3]; exact hk, fun p hpn => ?_⟩
      have es : sortD (l.zip ps) = (bs.mergeSort (PySem.W.dataLe false (·.2.2))).map (·.2.1) := by
        unfold sortD
        rw [← e2]
        have := List.map_mergeSort (r := PySem.W.dataLe false (fun b : SB => b.2.2)) (s := PySem.W.dataLe false (fun b : D × PyData => b.2)) (f := fun b : SB => (b.2.1, b.2.2)) (l := bs) (fun _ _ _ _ => rfl)
        rw [← this, List.map_map]
        rfl
      have dvs := dvs_of (bs := bs.mergeSort (PySem.W.dataLe false (·.2.2))) (K := X.K) (H := H) (U := um F M) fun b hb => (e4 b ((List.mergeSort_perm _ _).mem_iff.mp hb)).1
      rw [← es] at dvs
      obtain ⟨s1, m1, n1⟩ := new_mut m hpn dvs
      exact hP _ _ _ _ s1 m1 (.ref p) (q p n1)
end
end Ab
set_option maxRecDepth 100000
set_option maxHeartbeats 4000000
/-! Ab18: loops and comprehensions over a list in memory: the turns must leave it as it is (C). -/
namespace Ab
open PySem L2 PyProof.Rows
section
variable {X : Cx} {pos : Pos}
def ItOkC (X : Cx) (J : It) (xs : List D) (H : Hp) (F : List Addr) (M : Mem) (C : Mem → Prop) : Prop := ∀ F' H' M', StepX F H M H' M' → FrGo H F F' → MSt X.K H' F' M' → C M' →
  (∀ i d, xs[i]? = some d → J.go i H' ∧ ∀ x H2, J.yld i H' x H2 → Step H' M' H2 M' ∧ MSt X.K H2 F' M' ∧ DV X.K H2 (um F' M') x d) ∧ J.stop xs.length H'
abbrev AIC := Rho → Mem → (List D → (Mem → Prop) → Mem → Prop) → XKA → Prop
structure DenIC (X : Cx) (tg iter : Expr) (ai : AIC) : Prop where
  run : ∀ (F : List Addr) (ρ : Rho) (M : Mem) (P : List D → (Mem → Prop) → Mem → Prop) (EX : XKA) (W : WX) (σ : L2.St) (H : Hp) (R : It → Hp → Prop), Sta X H F M σ ρ → Takes X W → ai ρ M P EX →
    (∀ J xs C M' H', Step H M H' M' → MSt X.K H' F M' → ItOkC X J xs H' F M' C → P xs C M' → R J H') → LX X H F M EX (fun cls d H' => W cls d σ H') → IW X tg iter σ H R
/-- the list at a in memory -/
def iMemA (te : AE) : AIC := fun ρ M P EX => te ρ M (fun d M1 => ∃ a l, d = .ref a ∧ (a, MO.lst l) ∈ M1 ∧ P l (fun M' => (a, MO.lst l) ∈ M') M1) EX
/-- a bare iterator, no condition -/
def LoopC (g : AG) (body : AS) (k : KE) (xs : List D) (C : Mem → Prop) (ρ : Rho) (M : Mem) : Prop := ∃ J : Nat → Rho → Mem → Prop, J 0 ρ M ∧ (∀ i ρ' M', J i ρ' M' → C M') ∧
  (∀ i d ρ' M', xs[i]? = some d → J i ρ' M' → g d ρ' M' (fun ρ1 M1 => body ρ1 M1 { k with nx := J (i + 1), ct := J (i + 1), bk := k.nx })) ∧ ∀ ρ' M', J xs.length ρ' M' → k.nx ρ' M'
def aForC (ai : AIC) (g : AG) (body : AS) : AS := fun ρ M k => ai ρ M (fun xs C M1 => LoopC g body k xs C ρ M1) (fun x M' => k.ex x ρ M')
theorem ds_forC {tg iter : Expr} {body : List Stmt} {ai : AIC} {g : AG} {tb : AS} {vs : List Nat} (hp : PassesOwn (model X.prog X.w) X.A X.env X.xe) (hc : X.calm = true) (hi : DenIC X tg iter ai) (hg : DenG X tg vs g) (hb : DenB X body tb)
    (hs : ∀ x, foldedSetIterable iter X.env x = pure x := by intro _; rfl) : DenS X (.For tg iter body [] pos) (aForC ai g tb) :=
  ⟨fun F ρ M k W σ H D S tk h L => fun pins s I => by
    refine (ps_for hp hc (pi_iw (X := X)) (pg_gt (X := X)) (pss_bw (X := X)) hs).run pins s σ H D I ?_
    refine hi.run F ρ M _ _ W σ H _ S tk h (fun J xs C M1 H1 s1 m1 io hL => ?_) (L.lx S)
    obtain ⟨Jv, h0, hC, hstep, hd⟩ := hL
    refine ⟨fun i m σ' H' => m + i = xs.length ∧ ∃ ρ' M', Step H1 M1 H' M' ∧ Sta X H' F M' σ' ρ' ∧ Jv i ρ' M', ⟨xs.length, Nat.add_zero _, ρ, M1, Step.refl _ _, S.step s1 m1, h0⟩, ?_⟩
    rintro i m σ' H' ⟨hm, ρ', M', s', S', hj⟩
    obtain ⟨ho, hstop⟩ := io F H' M' s'.toX FrGo.refl S'.ms (hC i ρ' M' hj)
    by_cases hi' : i = xs.length
    · subst hi'
      exact Or.inl ⟨hstop, L.nx ρ' M' σ' H' (s1.trans s') S' (hd ρ' M' hj)⟩
    · have hlt : i < xs.length := by omega
      obtain ⟨d, hd'⟩ : ∃ d, xs[i]? = some d := ⟨_, List.getElem?_eq_getElem hlt⟩
      obtain ⟨hgo, hy⟩ := ho i d hd'
      refine Or.inr ⟨hgo, fun σ2 H2 => ∃ ρ2 M2, Step H1 M1 H2 M2 ∧ Sta X H2 F M2 σ2 ρ2 ∧ Jv (i + 1) ρ2 M2, fun σ2 H2 q => ⟨m - 1, by omega, by omega, q⟩, fun x H2 hyl => ?_⟩
      obtain ⟨s2, m2, dx⟩ := hy x H2 hyl
      refine hg.run F x d ρ' M' _ W σ' H2 _ (S'.step s2 m2) dx tk (hstep i d ρ' M' hd' hj) fun ρ3 M3 σ3 H3 s3 S3 _ q3 => ?_
      have l3 := ((s1.trans s').trans s2).trans s3
      refine hb.run F ρ3 M3 _ W σ3 H3 _ S3 tk q3 ⟨fun ρ4 M4 σ4 H4 s4 S4 q4 => ⟨ρ4, M4, ((s'.trans s2).trans s3).trans s4, S4, q4⟩, fun v d' M4 H4 s4 m4 dv q4 => L.rt v d' M4 H4 (l3.trans s4) m4 dv q4,
        fun ρ4 M4 σ4 H4 s4 S4 q4 => L.nx ρ4 M4 σ4 H4 (l3.trans s4) S4 q4, fun ρ4 M4 σ4 H4 s4 S4 q4 => ⟨ρ4, M4, ((s'.trans s2).trans s3).trans s4, S4, q4⟩, fun x' ρ4 M4 cls dd σ4 H4 s4 S4 xv q4 => L.ex x' ρ4 M4 cls dd σ4 H4 (l3.trans s4) S4 xv q4⟩⟩

def LcC (vs : List Nat) (g : AG) (tt : AT) (te : AE) (xs : List D) (C : Mem → Prop) (ρ : Rho) (M : Mem) (P : List D → Mem → Prop) : Prop := ∃ J : Nat → List D → Mem → Prop, J 0 [] M ∧ (∀ i acc M', J i acc M' → C M') ∧
  (∀ i d acc M', xs[i]? = some d → J i acc M' → g d (wipeA ρ vs) M' (fun ρ2 M2 => tt ρ2 M2 (fun b M3 => (b = true → te ρ2 M3 (fun y M4 => acc.length < 100000 ∧ J (i + 1) (acc ++ [y]) M4) noX) ∧ (b = false → J (i + 1) acc M3)) noX)) ∧
  ∀ acc M', J xs.length acc M' → P acc M'
def aLcC (vs : List Nat) (ai : AIC) (g : AG) (tt : AT) (te : AE) (R : List D → Mem → AK → Prop) : AE := fun ρ M P EX => ai ρ M (fun xs C M1 => LcC vs g tt te xs C ρ M1 (fun acc M2 => R acc M2 P)) EX
theorem lcC_ok {elt tg iter : Expr} {ifs : List Expr} {scope : Scope} {vs ws : List Nat} {ai : AIC} {g : AG} {tt : AT} {te : AE} (b : Bool) {F : List Addr} {ρ : Rho} {M : Mem} {P : AK} {EX : XKA} {W : WX} {σ : L2.St} {H : Hp} {Q : VK}
    (hi : DenIC X tg iter ai) (hg : Blk X scope fun X' => DenG X' tg ws g) (hw : ∀ i ∈ ws, i ∈ vs) (ht : Blk X scope fun X' => DenTs X' ifs tt) (he : Blk X scope fun X' => DenE X' elt te) (S : Sta X H F M σ ρ) (tk : Takes X W)
    (h : aLcC vs ai g tt te (if b = true then rMut else rFro) ρ M P EX) (hP : ∀ v d M' H', Step H M H' M' → MSt X.K H' F M' → DV X.K H' (um F M') v d → P d M' → Q v H') (hX : LX X H F M EX (fun cls d H' => W cls d σ H')) :
    tLc (IW X tg iter) (fun v σ H Q => ∀ (s : Shared) (H' : Hp) (C : Addr) (cl : List (Str × Addr)) (fp : List Addr), GT (X.blk s H' scope (compEnvC scope cl C X.env) fp) tg v σ H Q)
      (fun σ H Q => ∀ (s : Shared) (H' : Hp) (C : Addr) (cl : List (Str × Addr)) (fp : List Addr) (pins : List (Addr × Obj)) (t : Shared), Inv (X.blk s H' scope (compEnvC scope cl C X.env) fp) pins σ H t →
        wpAny (model X.prog X.w) X.A (forIn ifs true fun c r => if r = true then do let ok ← isTrue c (compEnvC scope cl C X.env) (eval c (compEnvC scope cl C X.env)); pure (ForInStep.yield ok) else pure (ForInStep.yield r)) (TP (X.blk s H' scope (compEnvC scope cl C X.env) fp) pins σ Q) (fun _ _ => False) t)
      (fun σ H Q => ∀ (s : Shared) (H' : Hp) (C : Addr) (cl : List (Str × Addr)) (fp : List Addr), EW (X.blk s H' scope (compEnvC scope cl C X.env) fp) elt σ H Q) vs σ H Q := by
  refine hi.run F ρ M _ EX W σ H _ S tk h (fun J xs C M1 H1 s1 m1 io hL => ?_) hX
  intro D0 hD
  obtain ⟨Jv, h0, hC, hstep, hd⟩ := hL
  have nD := m1.notin hD
  have st0 : Step H1 M1 (upd H1 D0 (.lst [])) M1 := step_new hD
  have mD : MSt X.K (upd H1 D0 (.lst [])) (D0 :: F) M1 := by
    have m := mst_new (o := .lst []) m1 hD
    exact ⟨m.nd, fun q hq => by
      obtain ⟨u, e⟩ := (m1.ok q hq).there
      have z := (m1.ok q hq)
      have key : ∀ {o : MO}, MoOk X.K H1 (um F M1) q.1 o → MoOk X.K (upd H1 D0 (.lst [])) (um (D0 :: F) M1) q.1 o := fun {o} z => by
        have f2 : FrGo H1 F (D0 :: F) := fun b hb => (List.mem_cons.mp hb).elim (fun y => Or.inr (by rw [y]; exact hD)) Or.inl
        have ne : upd H1 D0 (.lst []) q.1 = H1 q.1 := upd_ne (ne_of_none e hD)
        cases o with
        | lst ds => obtain ⟨a, b1, b2⟩ := z; exact ⟨a, ne.trans b1, b2.step2 st0 f2⟩
        | ins C fs => obtain ⟨a, b, b1, b2⟩ := z; exact ⟨a, b, ne.trans b1, b2.step2 st0 f2⟩
        | dK kvs => obtain ⟨a, b1, b2⟩ := z; exact ⟨a, ne.trans b1, b2.step2 st0 f2⟩
        | lk o ws kvs => obtain ⟨b1, b2⟩ := z; exact ⟨ne.trans b1, b2.step2 st0 f2⟩
        | any o => exact ne.trans z
      exact key z, fun b hb => by
      rcases List.mem_cons.mp hb with y | y
      · rw [y]; exact ⟨fun z => nD (List.mem_append_left _ z), _, upd_same⟩
      · exact m.fr b y⟩
  have f2 : FrGo H1 F (D0 :: F) := fun b hb => (List.mem_cons.mp hb).elim (fun y => Or.inr (by rw [y]; exact hD)) Or.inl
  -- the invariant of the turns
  let Wv : Nat → Hp → Prop := fun i H' => ∃ acc as M', Step H1 M1 H' M' ∧ MSt X.K H' (D0 :: F) M' ∧ H' D0 = some (.lst as) ∧ DVs X.K H' (um (D0 :: F) M') as acc ∧ Jv i acc M'
  refine ⟨fun i m H' => m + i = xs.length ∧ Wv i H', ⟨xs.length, Nat.add_zero _, [], [], M1, st0, mD, upd_same, .nil, h0⟩, ?_⟩
  rintro i m H' ⟨hm, acc, as, M', s', m', hD', dvs, hj⟩
  obtain ⟨ho, hstop⟩ := io (D0 :: F) H' M' s'.toX f2 m' (hC i acc M' hj)
  by_cases hi' : i = xs.length
  · subst hi'
    left
    refine ⟨hstop, ?_⟩
    have mF : MSt X.K H' F M' := m'.less fun b hb => List.mem_cons_of_mem _ hb
    have nD' : D0 ∉ dom M' := (m'.fr D0 List.mem_cons_self).1
    have nF : D0 ∉ F := fun z => nD (List.mem_append_right _ z)
    have hq := hd acc M' hj
    cases b with
    | false =>
      have hq' : P (.lst acc) M' := hq
      refine hP _ _ M' H' (s1.trans s') mF (.lst hD' (fun z => (List.mem_append.mp z).elim nD' nF) (dvs.anti fun a ha => (List.mem_append.mp ha).elim (fun z => List.mem_append_left _ z) fun z => List.mem_append_right _ (List.mem_cons_of_mem _ z))) hq'
    | true =>
      have hq' : ∀ q, q ∉ dom M' → P (.ref q) (M' ++ [(q, .lst acc)]) := hq
      have sp : Split (M' ++ [(D0, MO.lst acc)]) M' [(D0, MO.lst acc)] := List.Perm.refl _
      have sub : ∀ a ∈ um F (M' ++ [(D0, MO.lst acc)]), a ∈ um (D0 :: F) M' := fun a ha => by
        rw [um, dom_app] at ha
        simp only [List.mem_append, List.mem_singleton] at ha
        rcases ha with (z | z) | z
        · exact List.mem_append_left _ z
        · exact List.mem_append_right _ (by rw [z]; exact List.mem_cons_self)
        · exact List.mem_append_right _ (List.mem_cons_of_mem _ z)
      have mm : MSt X.K H' F (M' ++ [(D0, MO.lst acc)]) := by
        refine ⟨?_, fun q hq => ?_, fun b hb => ⟨?_, (mF.fr b hb).2⟩⟩
        · rw [dom_app]
          refine List.nodup_append.mpr ⟨mF.nd, by simp, fun a ha b hb => ?_⟩
          rw [List.mem_singleton.mp hb]
          rintro rfl
          exact nD' ha
        · rcases List.mem_append.mp hq with z | z
          · exact (m'.ok q z).anti sub
          · rw [List.mem_singleton.mp z]
            exact ⟨as, hD', dvs.anti sub⟩
        · rw [dom_app]
          intro z
          rcases List.mem_append.mp z with z | z
          · exact (mF.fr b hb).1 z
          · rw [List.mem_singleton.mp z] at hb; exact nF hb
      refine hP _ _ (M' ++ [(D0, MO.lst acc)]) H' ⟨(s1.trans s').keep, fun b hb => ?_⟩ mm (.ref D0) (hq' D0 nD')
      rw [dom_app] at hb
      rcases List.mem_append.mp hb with z | z
      · exact (s1.trans s').new b z
      · rw [List.mem_singleton.mp z]
        cases e : H D0 with
        | none => exact Or.inr rfl
        | some u =>
          by_cases hdm : D0 ∈ dom M
          · exact Or.inl hdm
          · have := s1.keep D0 u hdm e
            rw [hD] at this; cases this
  · right
    have hlt : i < xs.length := by omega
    obtain ⟨d, hd'⟩ : ∃ d, xs[i]? = some d := ⟨_, List.getElem?_eq_getElem hlt⟩
    obtain ⟨hgo, hy⟩ := ho i d hd'
    refine ⟨hgo, Wv (i + 1), fun H2 q => ⟨m - 1, by omega, by omega, q⟩, fun x H2 hyl => ?_⟩
    obtain ⟨s2, m2, dx⟩ := hy x H2 hyl
    have keepD : ∀ {Ha Hb : Hp} {Ma Mb : Mem} {as : List V}, Step Ha Ma Hb Mb → MSt X.K Ha (D0 :: F) Ma → Ha D0 = some (.lst as) → Hb D0 = some (.lst as) := fun st mm e => st.keep D0 _ (mm.fr D0 List.mem_cons_self).1 e
    have sl2 : SlOk X.K H2 (um (D0 :: F) M') (L2.wipe σ vs) (wipeA ρ vs) := by
      have z : SlOk X.K H1 (um F M1) σ ρ := (S.step s1 m1).sl
      have z2 : SlOk X.K H2 (um (D0 :: F) M') σ ρ := ⟨z.len, fun i d e => let ⟨v, e1, e2⟩ := z.at_ i d e; ⟨v, e1, e2.step2 (s'.trans s2) f2⟩⟩
      exact z2.wipe vs
    intro s_ H_ C_ cl_ fp_
    refine (hg s_ H_ C_ cl_ fp_).run (D0 :: F) x d _ M' _ (fun _ _ _ _ => False) _ H2 _ ⟨sl2, m2⟩ dx takes_no (hstep i d acc M' hd' hj) fun ρ3 M3 σ3 H3 s3 S3 oe q3 => ?_
    refine ⟨wipe_eq oe hw, fun s_ H_ C_ cl_ fp_ pins t J' => ?_⟩
    refine (ht s_ H_ C_ cl_ fp_).run (D0 :: F) ρ3 M3 _ noX (fun _ _ _ _ => False) σ3 H3 _ ⟨S3.sl, S3.ms⟩ takes_no q3 (fun bb M4 H4 s4 m4 q4 => ?_) lx_no pins t J'
    have dv4 := (((dvs.step s2).step s3).step s4)
    have hD4 := keepD s4 S3.ms (keepD s3 m2 (keepD s2 m' hD'))
    cases bb with
    | false =>
      show Wv (i + 1) H4
      exact ⟨acc, as, M4, ((s'.trans s2).trans s3).trans s4, m4, hD4, dv4, q4.2 rfl⟩
    | true =>
      rw [if_pos rfl]
      intro s_ H_ C_ cl_ fp_
      refine (he s_ H_ C_ cl_ fp_).run (D0 :: F) ρ3 M4 _ noX (fun _ _ _ _ => False) σ3 H4 _ ⟨S3.sl.step s4, m4⟩ takes_no (q4.1 rfl) (fun y yd M5 H5 s5 m5 dy q5 => ?_) lx_no
      have hD5 := keepD s5 m4 hD4
      refine ⟨as, hD5, by rw [dvs.length]; exact Nat.lt_of_lt_of_le q5.1 (by decide), acc ++ [yd], as ++ [y], M5, ?_, ?_, upd_same, ?_, q5.2⟩
      · refine ⟨fun b u hb e => ?_, fun b hb => ((((s'.trans s2).trans s3).trans s4).trans s5).new b hb⟩
        rw [upd_ne (ne_of_none e hD)]
        exact ((((s'.trans s2).trans s3).trans s4).trans s5).keep b u hb e
      · refine ⟨m5.nd, fun q hq => ?_, fun b hb => ⟨(m5.fr b hb).1, ?_⟩⟩
        · have nq : q.1 ≠ D0 := fun z => (m5.fr D0 List.mem_cons_self).1 (by rw [← z]; exact List.mem_map_of_mem (f := (·.1)) hq)
          exact MoOk.frz (List.mem_append_right _ List.mem_cons_self) nq (m5.ok q hq)
        · by_cases e : b = D0
          · rw [e]; exact ⟨_, upd_same⟩
          · rw [upd_ne e]; exact (m5.fr b hb).2
      · exact DVs.frz (List.mem_append_right _ List.mem_cons_self) ((dv4.step s5).append (DVs.one dy))
/-- [elt for tg in iter if ..] -/
theorem de_lcC {elt tg iter : Expr} {ifs : List Expr} {scope : Scope} {own : List (Str × Nat)} {ws : List Nat} {pos : Pos} {ai : AIC} {g : AG} {tt : AT} {te : AE} (b : Bool) (own_ : own = own) (hc : X.calm = true) (hN : X.N.Nodup) (ok : BlkOk X.N X.env.scope scope own)
    (hi : DenIC X tg iter ai) (hg : Blk X scope fun X' => DenG X' tg ws g) (ht : Blk X scope fun X' => DenTs X' ifs tt) (he : Blk X scope fun X' => DenE X' elt te) (hw : ∀ i ∈ ws, i ∈ own.map (·.2) := by decide) (hs : ∀ x, foldedSetIterable iter X.env x = pure x := by intro _; rfl) :
    DenE X (.ListComp elt [⟨tg, iter, ifs, 0⟩] scope pos) (aLcC (own.map (·.2)) ai g tt te (if b = true then rMut else rFro)) :=
  ⟨fun F ρ M P EX W σ H Q S tk h hP hX => PE.ew (pe_lc (own := own) hc hN (pi_iw (X := X)) ok (fun s H C cl fp => ⟨fun pins s σ H v u Q I r h => h _ _ _ _ _ pins s u I r⟩) (fun s H C cl fp => ⟨fun pins s σ H Q I h => h _ _ _ _ _ pins s I⟩) (fun s H C cl fp => ⟨fun pins s σ H Q I h => h _ _ _ _ _ pins s I⟩) hs)
    (lcC_ok b hi hg hw ht he S tk h hP hX)⟩
/-- y = [elt for tg in iter if ..] -/
theorem ds_setLcC {elt tg iter : Expr} {ifs : List Expr} {scope : Scope} {own : List (Str × Nat)} {ws : List Nat} {pos spos py : Pos} {ai : AIC} {g : AG} {tt : AT} {te : AE} (b : Bool) (i : Nat) {y : Str} (own_ : own = own) (hc : X.calm = true) (hN : X.N.Nodup) (ok : BlkOk X.N X.env.scope scope own)
    (hi : DenIC X tg iter ai) (hg : Blk X scope fun X' => DenG X' tg ws g) (ht : Blk X scope fun X' => DenTs X' ifs tt) (he : Blk X scope fun X' => DenE X' elt te)
    (hsw : swapsWith (.ListComp elt [⟨tg, iter, ifs, 0⟩] scope pos) (some (.Name y py)) spos.line X.env = pure true) (hy : X.N[i]? = some y := by rfl) (hyl : X.env.scope.names.lookup y = some .local := by rfl) (hw : ∀ i ∈ ws, i ∈ own.map (·.2) := by decide) (hs : ∀ x, foldedSetIterable iter X.env x = pure x := by intro _; rfl) :
    DenS X (.Assign [.Name y py] (.ListComp elt [⟨tg, iter, ifs, 0⟩] scope pos) spos) (aAsg (aLcC (own.map (·.2)) ai g tt te (if b = true then rMut else rFro)) (gNameA i)) :=
  ⟨fun F ρ M k W σ H D S tk h L => fun pins s I => (ps_setLc (own := own) hc hN hy hyl hsw (pi_iw (X := X)) ok (fun s H C cl fp => ⟨fun pins s σ H v u Q I r h => h _ _ _ _ _ pins s u I r⟩) (fun s H C cl fp => ⟨fun pins s σ H Q I h => h _ _ _ _ _ pins s I⟩) (fun s H C cl fp => ⟨fun pins s σ H Q I h => h _ _ _ _ _ pins s I⟩) hs).run pins s σ H D I
    (lcC_ok b hi hg hw ht he S tk h (fun v d M' H' s m dv q => L.nx _ M' _ H' s ⟨by rw [sS_set]; exact (S.sl.step s).set dv i, m⟩ q) (L.lx S))⟩
theorem di_mem {tg l : Expr} {tl : AE} (hl : DenE X l tl) : DenIC X tg l (iMemA tl) :=
  ⟨fun F ρ M P EX W σ H R S tk h hP hX => fun pins s I => (pi_list (pe_ew (X := X))).run pins s σ H R I
    (hl.run F ρ M _ EX W σ H _ S tk h (fun v d M1 H1 s1 m1 dv q => by
      obtain ⟨a, ds, rfl, hm, q⟩ := q
      cases dv
      obtain ⟨ys, e1, e2⟩ := m1.ok _ hm
      refine ⟨_, rfl, ⟨_, SqL.of e1⟩, hP _ ds _ M1 H1 s1 m1 (fun F' H' M' s' f' m' hc => ?_) q⟩
      obtain ⟨xs, h1, h2⟩ := m'.ok _ hc
      have h1 := SqL.of (K := X.K) h1
      refine ⟨fun i d e => ?_, ⟨xs, h1, Nat.le_of_eq h2.length⟩⟩
      obtain ⟨x, ex, dx⟩ := h2.get e
      refine ⟨⟨xs, x, h1, ex⟩, fun y H2 q => ?_⟩
      obtain ⟨rfl, q⟩ := q
      have := q xs h1
      rw [ex] at this; cases this
      exact ⟨Step.refl _ _, m', dx⟩) hX)⟩
end
end Ab
set_option maxRecDepth 100000
set_option maxHeartbeats 4000000
/-! Ab19: a def told of one place of call (the law's own), so that what is under way is known. -/
namespace L2
open PySem PySem.Spec PyProof.Rows
/-- FnOk, of the calls from A alone -/
structure FnAt (P : Program) (w : World) (K : PySem.W.Frag) (mg : Str → Option Value) (base : Heap) (CX : CXT) (k : Nat) (A : Around) (f : Addr) (fd : FuncData) (ps : List Str) (sp : Sp) : Prop where
  len : ∀ vs H Q E, sp vs H Q E → vs.length = ps.length
  run : ∀ (outer : List Env) (s : Shared) (H : Hp) (args : Args) (us : List Value) (vs : List V) (Q : VK) (E : XK), Room k A → Env0 P w K mg base A outer s H → BindsTo s fd args (ps.zip us) → Vals vs us → sp vs H Q E →
    codeAny (model P w) A (.call (.ref f) args) (CR CX outer P w H s Q E) s
theorem fn_at {CX : CXT} {P : Program} {w : World} {K : PySem.W.Frag} {mg : Str → Option Value} {base : Heap} {k : Nat} {f : Addr} {name qual : Str} {params : Arguments} {body : List Stmt} {scope : Scope} {dV kV doc pm cdv ct oc : Value} {an od : Option Addr}
    {osl : Array (Option Value)} {N ps : List Str} {sp : Sp} (lk : K.lookup f = some ⟨oc, od, .func (PySem.W.fnOf name qual params body scope dV kV doc pm an cdv ct), osl⟩) (hcd : PySem.W.codeIn K cdv qual = true) (S : FnScope N ps scope)
    (len : ∀ vs H Q E, sp vs H Q E → vs.length = ps.length)
    (A : Around) (hbody : ∀ (outer : List Env) (s : Shared) (H : Hp) (vs : List V) (Q : VK) (E : XK), Room k (A.deeper (envOfC qual scope s.heap.objs.size f cdv)) → sp vs H Q E →
      ∃ t, PSs (cxOf CX P w K mg base N qual scope f cdv A outer s H E) body t ∧ t { nx := fun _ H' => Q .non H', rt := Q } (start N vs) H) :
    FnAt P w K mg base CX (k + 1) A f (PySem.W.fnOf name qual params body scope dV kV doc pm an cdv ct) ps sp := by
  refine ⟨len, fun outer s H args us vs Q E hr e0 hb r hsp => ?_⟩
  have hl := len _ _ _ _ hsp
  have KX : K.In s.heap := e0.mod.kin.keeps fun b o e => (e0.bs b o e).1
  have lim : s.heap.NoLimit := e0.mod.nolimit.keeps fun b o e => (e0.bs b o e).1
  have hkind : ∀ y ∈ ps.zip us, scope.names.lookup y.1 = some .local ∨ (scope.names.lookup y.1 = some .cell ∧ ((cellsFrom (s.heap.objs.size + 1) scope.names []).lookup y.1).isSome = true) := fun ⟨n, v⟩ hy => by
    rcases S.par n (List.of_mem_zip hy).1 with q | q
    · exact .inl q
    · exact .inr ⟨q, PySem.W.cellsFrom_some _ _ _ (.inl q)⟩
  refine codeAny_call_function hr.depth (KX _ _ lk) rfl S.co S.gen rfl (PySem.W.codeRec_of KX hcd) (hb _ _ _ _ ?_)
  refine wpAny_newFunctionEnv_cells S.kind hkind fun env he s1 x => ?_
  subst he
  refine ⟨lim.keeps x.toInCall.keep, codeAny_func ?_⟩
  obtain ⟨t, ht, hq⟩ := hbody outer s H vs Q E (hr.deeper _) hsp
  have I : Inv (cxOf CX P w K mg base N qual scope f cdv A outer s H E) [] (start N vs) H s1 := inv_start S hr.hd e0 hl r x
  refine wpAny_mono (ht.run [] s1 (start N vs) H _ I hq) (fun fl s' hs => ?_) fun e s' hs => hs
  have fin : ∀ {σ' : St} {H' : Hp} {v : V} {u : Value}, Inv (cxOf CX P w K mg base N qual scope f cdv A outer s H E) [] σ' H' s' → RelV v u → Q v H' → CE outer P w H s Q u s' :=
    fun {σ' H' v u} J rv q => ⟨v, H', J.os, J.bare, J.base, J.hok, rv, q⟩
  cases fl with
  | ret u =>
    obtain ⟨v, σ', H', J, rv, q⟩ := hs
    exact fin J rv q
  | next =>
    obtain ⟨σ', H', J, q⟩ := hs
    exact fin (v := V.non) (u := Value.none) J rfl q
  | brk =>
    obtain ⟨_, _, _, q⟩ := hs
    exact False.elim q
  | cont =>
    obtain ⟨_, _, _, q⟩ := hs
    exact False.elim q
theorem law_callG {P : Program} {w : World} {K : PySem.W.Frag} {mg mb : Str → Option Value} {CX : CXT} {k : Nat} {fa a : Addr} {fd : FuncData} {x : Str} {sp : Sp} {s₁ : Shared} {vs : List Value} {ns : List Int}
    (KX : K.In s₁.heap) (hns : s₁.heap.Ns mainGlobals mg) (hb : s₁.heap.Ns builtinsNs mb) (hbb : ∀ x : Str, x ≠ "__name__" → mb x = bootBuiltins x) (hlim : s₁.heap.NoLimit) (hg : s₁.gens = #[])
    (ha : s₁.heap.get? a = some { cls := .type "list", data := .seq vs.toArray }) (hi : IntsAre vs ns) (hl : ns.length ≤ sizeLine) (hr : Room k callerA)
    (F : ∀ base : Heap, K.In base → base.Ns mainGlobals mg → FnAt P w K mg base CX k callerA fa fd [x] sp) (hbind : ∀ (s : Shared) (u : Value), BindsTo s fd ⟨[u], []⟩ [(x, u)])
    (hsp : ∀ H : Hp, Only H → SqL K H a (ns.map V.int) → sp [.ref a] H (fun v _ => v = .bl true) fun _ _ _ => False)
    (hCX : ∀ H e s', CX [] H s₁ (fun _ _ _ => False) e s' → False) :
    codeAny (model P w) callerA (.call (.ref fa) ⟨[.ref a], []⟩) (fun r s' => r = .ok (.ret (.bool true)) ∧ OldK s₁.heap s'.heap ∧ s'.os = s₁.os ∧ AllBare s'.gens) s₁ := by
  have rv := vals_ints hi
  have lenV := hi.length
  -- from an abstract heap in which nothing but the script may be tracked
  have core : ∀ H : Hp, Only H → SqL K H a (ns.map V.int) → HOk P w H s₁.heap → (∀ b, H b ≠ none → b = a) → (H a ≠ none → K.lookup a = none) →
      codeAny (model P w) callerA (.call (.ref fa) ⟨[.ref a], []⟩) (fun r s' => r = .ok (.ret (.bool true)) ∧ OldK s₁.heap s'.heap ∧ s'.os = s₁.os ∧ AllBare s'.gens) s₁ := by
    intro H hO hS hok hA hK
    have base_of : ∀ {b : Addr} {o : Obj}, s₁.heap.get? b = some o → H b = none → (hidT s₁.heap H).get? b = some o := fun e n => hidT_get e n
    have noA : ∀ {b : Addr} {o : Obj} {es : Array DictEntry} {ep : Nat}, s₁.heap.get? b = some o → o.data = .dict es ep → H b = none := fun {b o es ep} e d => by
      cases q : H b with
      | none => rfl
      | some u =>
        have e' : b = a := hA b (by rw [q]; simp)
        subst e'
        rw [ha] at e; cases e
        have d' : Data.seq vs.toArray _ = Data.dict es ep := d
        cases d'
    have nsK : ∀ {b : Addr} {m : Str → Option Value}, s₁.heap.Ns b m → (hidT s₁.heap H).Ns b m := fun {b m} ⟨o, es, ep, e, d, r⟩ => ⟨o, es, ep, base_of e (noA e d), d, r⟩
    have hKb : K.In (hidT s₁.heap H) := fun b o e => base_of (KX b o e) (by
      cases q : H b with
      | none => rfl
      | some u =>
        have e' : b = a := hA b (by rw [q]; simp)
        subst e'
        rw [hK (by rw [q]; simp)] at e; cases e)
    have hM : Mod K mg (hidT s₁.heap H) := ⟨hKb, nsK hns, ⟨mb, nsK hb, hbb⟩, let ⟨mc, h1, h2⟩ := hlim; ⟨mc, nsK h1, h2⟩⟩
    have e0 : Env0 P w K mg (hidT s₁.heap H) callerA [] s₁ H := ⟨rfl, hM, fun b o e => of_hidT e, Nat.le_of_eq (hidT_size _ _), trivial, fun b hb => absurd (show b ∈ ([] : List Addr) from hb) (by simp), hok, .of_eq hg⟩
    refine codeAny_mono ((F _ hKb (nsK hns)).run [] s₁ H ⟨[.ref a], []⟩ [.ref a] [.ref a] _ _ hr e0 (hbind s₁ (.ref a)) (.cons rfl .nil) (hsp H hO hS)) fun r s' h => ?_
    cases r with
    | error e => exact (hCX H e s' h).elim
    | ok fl =>
      cases fl with
      | next => exact False.elim h
      | brk => exact False.elim h
      | cont => exact False.elim h
      | ret u =>
        obtain ⟨v, H', os, bare, un, hok', r', q⟩ := h
        have q' : v = .bl true := q
        subst q'
        obtain rfl : u = Value.bool true := r'
        refine ⟨rfl, OldK.of_keep fun b o e => ?_, os, bare⟩
        cases q : H b with
        | none => exact un.keep b o e q (by intro z; exact absurd (show b ∈ ([] : List Addr) from z) (by simp)) (by simp)
        | some u =>
          rcases hO b with z | ⟨ob, xs, z⟩
          · rw [q] at z; cases z
          · have z2 := un.frzs b ob _ z
            obtain ⟨e1, _⟩ := hok b _ z
            obtain ⟨e2, _⟩ := hok' b _ z2
            rw [e] at e1; cases e1
            exact e2
  cases hk : K.lookup a with
  | some o =>
    -- the script is one of the module's own objects
    have e := KX a o hk
    rw [ha] at e
    cases e
    refine core (fun _ => none) (fun _ => .inl rfl) (.inr ⟨_, vs.toArray, _, hk, rfl, rfl, rfl, by rw [List.size_toArray, lenV]; exact hl, by simpa using rv⟩) (fun b u z => by have z' : (none : Option HO) = some u := z; cases z') (fun b z => absurd rfl z) fun z => absurd rfl z
  | none =>
    refine core (fun b => if b = a then some (.frz { cls := .type "list", data := .seq vs.toArray } (.lst (ns.map V.int))) else none) (fun b => ?_) (.inl (.inr ⟨{ cls := .type "list", data := .seq vs.toArray }, if_pos rfl⟩)) (fun b u z => ?_) (fun b z => ?_) fun _ => hk
    · by_cases hb : b = a
      · exact .inr ⟨_, _, if_pos hb⟩
      · exact .inl (if_neg hb)
    · by_cases hb : b = a
      · have z' := (if_pos hb).symm.trans z
        cases z'
        subst hb
        exact ⟨ha, by rw [List.length_map]; exact hl, vs, _, rv, ha⟩
      · have z' := (if_neg hb).symm.trans z
        cases z'
    · by_cases hb : b = a
      · exact hb
      · exact absurd (if_neg hb) z
theorem walk_ofG {l : PySem.W.OpenLaw} {n k : Nat} {q : Program} {loose : List Str} {XP : (Str → Option Value) → Heap → Prop} {YP : World → Heap → Prop} {d : DefRec} {CX : World → CXT} {x : Str}
    (hn : l.most = some n) (hn2 : n ≤ sizeLine) (hdf : d.params.defaults = []) (hr : Room k callerA)
    (F : ∀ (w : World) (mg : Str → Option Value) (fa : Addr) (h : Heap), YP w h → h.Ns mainGlobals mg → mg d.name = some (.ref fa) →
      ∃ (K : PySem.W.Frag) (fd : FuncData) (sp : Sp), K.In h ∧ (∀ (s : Shared) (u : Value), BindsTo s fd ⟨[u], []⟩ [(x, u)]) ∧
        (∀ (H : Hp) (a : Addr) (ns : List Int), ns.length ≤ n → Only H → SqL K H a (ns.map V.int) → sp [.ref a] H (fun v _ => v = .bl true) fun _ _ _ => False) ∧
        ∀ base : Heap, K.In base → base.Ns mainGlobals mg → FnAt l.prog w K mg base (CX w) k callerA fa fd [x] sp)
    (hCX : ∀ (w : World) (H : Hp) (s : Shared) (e : Value) (s' : Shared), CX w [] H s (fun _ _ _ => False) e s' → False) :
    PySem.W.WalkO q loose XP YP l.row.toRowW d [] (fun f vs => PySem.call f vs) := by
  refine Att.attach_call hn hdf fun w s₀ s₁ mg mb fa o pm cd doc a vs ns G Y ho hd hcd hmg hobj hints hlen hg => ?_
  obtain ⟨K, fd, sp, KX, hb, hsp, hF⟩ := F w mg fa _ Y G.T.g hmg
  exact law_callG KX G.T.g G.T.b G.T.builtins G.T.nolimit hg hobj hints (Nat.le_trans hlen hn2) hr hF hb (fun H hO hS => hsp H a ns hlen hO hS) fun H e s' => hCX w H s₁ e s'

end L2
set_option maxRecDepth 100000
set_option maxHeartbeats 4000000
/-! Ab20: the law's own def; repr; == over lists in memory; written dicts. -/
namespace Ab
open PySem PySem.Spec L2 PyProof.Rows
theorem _root_.L2.Room.u200 {k : Nat} {A : Around} (r : Room k A) : A.units + 200 < cLine := by have := r.un; omega
theorem afnAt {P : Program} {w : World} {K : PySem.W.Frag} {mg : Str → Option Value} {base : Heap} {nm qual : Str} {params : Arguments} {body : List Stmt} {scope : Scope} {dvs : List V} {kws : List (Str × V)} {f : Addr} {fd : FuncData} {N ps : List Str} {k : Nat} {S : ASp} {t : AS} (A : Around)
    (Fd : FunD K nm qual params body scope dvs kws f fd) (Sc : FnScope N ps scope) (len : ∀ ds M P EX, S ds M P EX → ds.length = ps.length)
    (den : ∀ (cdv : Value) (outer : List Env) (s : Shared) (H : Hp) (E : XK), Room k (A.deeper (envOfC qual scope s.heap.objs.size f cdv)) → DenB (cxOf (L2.CX P w) P w K mg base N qual scope f cdv A outer s H E) body t)
    (vc : ∀ ds M P EX, S ds M P EX → t (startA N ds) M (retK P EX)) : FnAt P w K mg base (L2.CX P w) (k + 1) A f fd ps (spOf K S) := by
  obtain ⟨oc, od, dV, kV, doc, pm, an, cdv, ct, osl, rfl, lk, hcd, _, _⟩ := Fd.ex
  refine fn_at lk hcd Sc (fun vs H Q E h => ?_) A fun outer s H vs Q E hr h => ⟨BW _ body, pss_bw, ?_⟩
  · obtain ⟨F, ds, M, P', EX, dv, _, q, _⟩ := h
    exact dv.length.trans (len _ _ _ _ q)
  · obtain ⟨F, ds, M, P', EX, dv, m, q, hP, hX⟩ := h
    have tk : Takes (cxOf (L2.CX P w) P w K mg base N qual scope f cdv A outer s H E) (fun cls d _ H' => E cls d H') := takes_of rfl rfl rfl rfl
    refine (den cdv outer s H E hr).run F _ M _ _ _ H _ ⟨start_sl dv, m⟩ tk (vc ds M P' EX q) ⟨fun ρ' M' σ' H' st S' z => ?_, fun v d M' H' st m' dv' z => ?_, fun _ _ _ _ _ _ z => z.elim, fun _ _ _ _ _ _ z => z.elim, fun x ρ' M' cls d σ' H' st S' xv z => ?_⟩
    · obtain ⟨M1, l, z⟩ := z
      exact hP _ _ M1 H' (st.trans l.step) (l.mst S'.ms) .non z
    · obtain ⟨M1, l, z⟩ := z
      exact hP _ _ M1 H' (st.trans l.step) (l.mst m') (dv'.anti l.um) z
    · obtain ⟨M1, l, z⟩ := z
      exact hX x M1 cls d H' (st.trans l.step) (l.mst S'.ms) (xv.anti l.um) z

/-! ### data, also of a list in memory -/
inductive PyR (M : Mem) : D → PyData → Prop
  | fr {x : D} {p : PyData} : IsPy x p → PyR M x p
  | mu {a : Addr} {l : List D} {ps : List PyData} : (a, MO.lst l) ∈ M → Paired IsPy l ps → PyR M (.ref a) (.list ps)
section
variable {X : Cx} {F : List Addr} {M : Mem} {H : Hp}
theorem PyR.dp {x : D} {p : PyData} {v : V} (h : PyR M x p) (m : MSt X.K H F M) (dv : DV X.K H (um F M) v x) : Dp X.K H v p := by
  cases h with
  | fr h => exact h.dp dv
  | mu hm hp =>
    cases dv
    obtain ⟨xs, e1, e2⟩ := m.ok _ hm
    exact .lst (SqL.of e1) (IsPy.dps hp e2)
inductive EqPA : A2
  | py {x y : D} {p q : PyData} {M : Mem} {P : AK} : PyR M x p → PyR M y q → SeqAt.shaped p = true → SeqAt.shaped q = true → P (.bl (PyData.eqv p q)) M → EqPA x y M P
def NePA : A2 := fun x y M P => EqPA x y M (fun d M' => ∃ b, d = .bl b ∧ P (.bl (!b)) M')
theorem ok_eqP (hu : X.A.units + 64 < cLine) : OkA2 X (compareOp .Eq) EqPA := fun F x y v w M P H Q m dv dw h hP => by
  cases h with
  | py h1 h2 s1 s2 q => exact ⟨_, op_eqD hu, _, _, h1.dp m dv, h2.dp m dw, s1, s2, hP _ _ M H (Step.refl H M) m (.bl _) q⟩
theorem ok_neP (hu : X.A.units + 64 < cLine) : OkA2 X (compareOp .NotEq) NePA := fun F x y v w M P H Q m dv dw h hP => by
  cases h with
  | py h1 h2 s1 s2 q =>
    obtain ⟨b, e, q⟩ := q
    cases e
    exact ⟨_, op_neD hu, _, _, h1.dp m dv, h2.dp m dw, s1, s2, hP _ _ M H (Step.refl H M) m (.bl _) q⟩
/-! ### repr -/
theorem call_reprD (hg : X.A.guards = some []) (hu : X.A.units + 200 < cLine) : CallR X (.builtin "repr") (fun xs H Q => ∃ (a : Addr) (d : PyData), xs = [.ref a] ∧ Dp X.K H (.ref a) d ∧ d.showable = true ∧ d.hasDict = false ∧ d.depth ≤ 60 ∧ d.shown.length ≤ sizeLine ∧ Q (.str d.shown) H) := by
  intro pins s σ H xs us Q I r h
  obtain ⟨a, d, rfl, hd, h1, h2, h3, h4, q⟩ := h
  rw [Vals.ref1 r]
  obtain ⟨as, rd⟩ := Dp.reads I d (.ref a) (.ref a) hd rfl
  refine repr_of_reads' rd h1 (fun z => by rw [h2] at z; cases z) hg (by omega) (fun b o e => e) (fun h' u tk k => ?_) h4
  exact ⟨.str d.shown, H, I.kept (t' := tk) k, ⟨u, rfl⟩, q⟩
inductive ReprA : AC
  | mk {x : D} {p : PyData} {M : Mem} {P : AK} : PyR M x p → flatD x = none ∨ (∃ a, x = .ref a) → p.showable = true → p.hasDict = false → p.depth ≤ 60 → p.shown.length ≤ sizeLine → P (.str p.shown) M → ReprA [x] M P
theorem PyR.ref {x : D} {p : PyData} {v : V} (h : PyR M x p) (dv : DV X.K H (um F M) v x) (hf : flatD x = none ∨ (∃ a, x = .ref a)) : ∃ a, v = .ref a := by
  cases h with
  | mu _ _ => cases dv; exact ⟨_, rfl⟩
  | fr h =>
    rcases hf with hf | ⟨a, rfl⟩
    · cases h <;> cases dv <;> first | exact ⟨_, rfl⟩ | cases hf
    · cases h
theorem okc_repr (hg : X.A.guards = some []) (hu : X.A.units + 200 < cLine) : OkC X (.builtin "repr") ReprA := fun F ds vs M P H Q m dv h hP => by
  cases h with
  | mk hp hf h1 h2 h3 h4 q =>
    cases dv with
    | cons d1 d2 =>
      cases d2
      obtain ⟨a, rfl⟩ := hp.ref d1 hf
      exact ⟨_, call_reprD hg hu, a, _, rfl, hp.dp m d1, h1, h2, h3, h4, hP _ _ M H (Step.refl H M) m (.str _) q⟩
/-! ### written dicts -/
theorem de_dic0 {pos : Pos} : DenE X (.Dict [] [] pos) (aC (.dic [])) :=
  ⟨fun F ρ M P EX W σ H Q S tk h hP hX => pe_dnewK.ew (fun p hp => by
    have nl := S.ms.notin hp
    exact hP _ _ M _ (step_new hp) (mst_new S.ms hp) (.dic upd_same nl .nil) h)⟩
theorem de_dic1 {pos : Pos} {k v : Expr} {a : Str} {i : Int} (hk : PE X k (tC (.str a))) (hv : PE X v (tC (.int i))) : DenE X (.Dict [some k] [v] pos) (aC (.dic [(.inr a, .int i)])) :=
  ⟨fun F ρ M P EX W σ H Q S tk h hP hX => (pe_disp (pps_cons hk hv pps_nil) rfl rfl (by simp) (by simp)).ew (fun p hp => by
    have nl := S.ms.notin hp
    refine ⟨upd_same, [(.inr a, .int i)], rfl, by simp, ?_⟩
    have s1 : Step H M (upd (upd H p (.dK [])) p (.dK (mergeK [] [(.inr a, .int i)]))) M := ⟨fun b u _ e => by rw [upd_ne (ne_of_none e hp), upd_ne (ne_of_none e hp)]; exact e, fun b hb => Or.inl hb⟩
    have e : upd (upd H p (.dK [])) p (.dK (mergeK [] [(.inr a, .int i)])) = upd H p (.dK (mergeK [] [(.inr a, .int i)])) := by
      funext b
      by_cases q : b = p
      · rw [q, upd_same, upd_same]
      · rw [upd_ne q, upd_ne q, upd_ne q]
    rw [e] at s1 ⊢
    exact hP _ _ M _ s1 (mst_new S.ms hp) (.dic upd_same nl (.cons (.int i) .nil)) h)⟩
end
end Ab
set_option maxRecDepth 100000
set_option maxHeartbeats 2000000
/-! Ab21: more steps of the readings. -/
namespace Ab
open PySem L2 PyProof.Rows
theorem kb_NoneType_int : kitB "NoneType" "int" = some false := by decide +kernel
theorem kb_NoneType_bool : kitB "NoneType" "bool" = some false := by decide +kernel
theorem kb_NoneType_str : kitB "NoneType" "str" = some false := by decide +kernel
theorem kb_NoneType_tuple : kitB "NoneType" "tuple" = some false := by decide +kernel
theorem kb_NoneType_list : kitB "NoneType" "list" = some false := by decide +kernel
theorem kb_NoneType_dict : kitB "NoneType" "dict" = some false := by decide +kernel
theorem kb_bool_int : kitB "bool" "int" = some true := by decide +kernel
theorem kb_bool_bool : kitB "bool" "bool" = some true := by decide +kernel
theorem kb_bool_str : kitB "bool" "str" = some false := by decide +kernel
theorem kb_bool_tuple : kitB "bool" "tuple" = some false := by decide +kernel
theorem kb_bool_list : kitB "bool" "list" = some false := by decide +kernel
theorem kb_bool_dict : kitB "bool" "dict" = some false := by decide +kernel
theorem kb_int_int : kitB "int" "int" = some true := by decide +kernel
theorem kb_int_bool : kitB "int" "bool" = some false := by decide +kernel
theorem kb_int_str : kitB "int" "str" = some false := by decide +kernel
theorem kb_int_tuple : kitB "int" "tuple" = some false := by decide +kernel
theorem kb_int_list : kitB "int" "list" = some false := by decide +kernel
theorem kb_int_dict : kitB "int" "dict" = some false := by decide +kernel
theorem kb_str_int : kitB "str" "int" = some false := by decide +kernel
theorem kb_str_bool : kitB "str" "bool" = some false := by decide +kernel
theorem kb_str_str : kitB "str" "str" = some true := by decide +kernel
theorem kb_str_tuple : kitB "str" "tuple" = some false := by decide +kernel
theorem kb_str_list : kitB "str" "list" = some false := by decide +kernel
theorem kb_str_dict : kitB "str" "dict" = some false := by decide +kernel
theorem kb_tuple_int : kitB "tuple" "int" = some false := by decide +kernel
theorem kb_tuple_bool : kitB "tuple" "bool" = some false := by decide +kernel
theorem kb_tuple_str : kitB "tuple" "str" = some false := by decide +kernel
theorem kb_tuple_tuple : kitB "tuple" "tuple" = some true := by decide +kernel
theorem kb_tuple_list : kitB "tuple" "list" = some false := by decide +kernel
theorem kb_tuple_dict : kitB "tuple" "dict" = some false := by decide +kernel
theorem kb_list_int : kitB "list" "int" = some false := by decide +kernel
theorem kb_list_bool : kitB "list" "bool" = some false := by decide +kernel
theorem kb_list_str : kitB "list" "str" = some false := by decide +kernel
theorem kb_list_tuple : kitB "list" "tuple" = some false := by decide +kernel
theorem kb_list_list : kitB "list" "list" = some true := by decide +kernel
theorem kb_list_dict : kitB "list" "dict" = some false := by decide +kernel
theorem kb_dict_int : kitB "dict" "int" = some false := by decide +kernel
theorem kb_dict_bool : kitB "dict" "bool" = some false := by decide +kernel
theorem kb_dict_str : kitB "dict" "str" = some false := by decide +kernel
theorem kb_dict_tuple : kitB "dict" "tuple" = some false := by decide +kernel
theorem kb_dict_list : kitB "dict" "list" = some false := by decide +kernel
theorem kb_dict_dict : kitB "dict" "dict" = some true := by decide +kernel
section
variable {M : Mem} {P : AK} {EX : XKA} {d : D} {ρ : Rho} {ta tb : AE} {A B : Prop}
theorem aWk_r (h : ta ρ M (fun d M1 => ∃ d', WkD d d' ∧ P d' M1) EX) : aWk ta ρ M P EX := h
theorem wk_t {l : List D} {Q : D → Prop} (h : Q (.tup l)) : ∃ d', WkD (.tpn l) d' ∧ Q d' := ⟨_, .tpn, h⟩
theorem wk_k {Q : D → Prop} (h : Q d) : ∃ d', WkD d d' ∧ Q d' := ⟨_, .keep, h⟩
theorem aTIx_r {t : AA} (h : ta ρ M (fun x M1 => (∃ l, x = .tpn l) ∧ t ρ M1 (fun ds M2 => TIndexA x ds M2 P) EX) EX) : aTIx ta t ρ M P EX := h
theorem tpn_r {l : List D} (h : A) : (∃ l', D.tpn l = .tpn l') ∧ A := ⟨⟨l, rfl⟩, h⟩
theorem aStep_r (h : ta ρ M (fun d M1 => tb ρ M1 (fun e M2 => ∃ k, e = .int k ∧ RevA d k M2 P) EX) EX) : aStep ta tb ρ M P EX := h
theorem tru_b {b : Bool} {PB : Bool → Prop} (h : PB b) : ∃ b', TruA M (.bl b) b' ∧ PB b' := ⟨b, .bl, h⟩
theorem ite_nt (h : B) : ((!true) = true → A) ∧ ((!true) = false → B) := ⟨fun z => Bool.noConfusion z, fun _ => h⟩
theorem ite_nf (h : A) : ((!false) = true → A) ∧ ((!false) = false → B) := ⟨fun _ => h, fun z => Bool.noConfusion z⟩
theorem obj_r {C : Addr} {fs : List (Str × D)} {m : Str} (h : fs.lookup m = none) (k : A) : (∃ fs', InsA M (.obj C fs) C fs' ∧ fs'.lookup m = none) ∧ A := ⟨⟨fs, .fr, h⟩, k⟩
theorem fld_r {C : Addr} {fs : List (Str × D)} {f : Str} {v : D} {Q : D → Prop} (h : fs.lookup f = some v) (k : Q v) : ∃ fs' v', InsA M (.obj C fs) C fs' ∧ fs'.lookup f = some v' ∧ Q v' := ⟨fs, v, .fr, h, k⟩
theorem aTryK_r {i j : Nat} {yes no : List Addr} {t : AS} {k : KE} (h : t ρ M { k with ex := fun xe ρ' M' => (xe.cls ∈ yes ∧ xe.fs = none ∧ i < ρ'.length ∧ j < ρ'.length ∧ k.nx (unS (sS ρ' j (.exc xe.cls)) i) M') ∨ (xe.cls ∈ no ∧ k.ex xe ρ' M') }) : aTryK i j yes no t ρ M k := h
theorem iEnumTA_r {t : AA} {PL : List D → Mem → Prop} (h : t ρ M (fun ds M1 => ∃ l, ds = [.tup l] ∧ PL (enumD l) M1) EX) : iEnumTA t ρ M PL EX := h
theorem en_t {l : List D} {PL : List D → Prop} (h : PL l) : ∃ l', [D.tup l] = [.tup l'] ∧ PL l' := ⟨l, rfl, h⟩
theorem aLc2L_r {vs vs1 : List Nat} {ai ai1 : AI} {g g1 : AG} {tt tt1 : AT} {R : List D → Mem → AK → Prop} (h : ai ρ M (fun xs M1 => LcA2 vs vs1 g tt ai1 g1 tt1 ta xs ρ M1 (fun acc M2 => R acc M2 P)) EX) : aLc2L vs vs1 ai g tt ai1 g1 tt1 ta R ρ M P EX := h
theorem aLcC_r {vs : List Nat} {ai : AIC} {g : AG} {tt : AT} {R : List D → Mem → AK → Prop} (h : ai ρ M (fun xs C M1 => LcC vs g tt ta xs C ρ M1 (fun acc M2 => R acc M2 P)) EX) : aLcC vs ai g tt ta R ρ M P EX := h
theorem iMemA_r {PL : List D → (Mem → Prop) → Mem → Prop} (h : ta ρ M (fun d M1 => ∃ a l, d = .ref a ∧ (a, MO.lst l) ∈ M1 ∧ PL l (fun M' => (a, MO.lst l) ∈ M') M1) EX) : iMemA ta ρ M PL EX := h
theorem cm0 {S : ASp} {ds : List D} (h : S ds [] (fun d Mc => P d (Mc ++ M)) (fun x Mc => EX x (Mc ++ M))) : CallM S ds M P EX := callM_none h
/-- a comprehension that keeps memory as it is and makes the items ys -/
theorem LcA.pure {vs : List Nat} {g : AG} {tt : AT} {te : AE} {xs : List D} {Pr : List D → Mem → Prop} (ys : List D) (hy : ys.length = xs.length)
    (h : ∀ (i : Nat) (d : D), xs[i]? = some d → g d (wipeA ρ vs) M (fun ρ2 M2 => tt ρ2 M2 (fun b M3 => (b = true → te ρ2 M3 (fun y M4 => (ys.take i).length < 100000 ∧ (M4 = M ∧ ys.take i ++ [y] = ys.take (i + 1))) noX) ∧ (b = false → (M3 = M ∧ ys.take i = ys.take (i + 1)))) noX)) (hp : Pr ys M) : LcA vs g tt te xs ρ M Pr := by
  refine ⟨fun i acc M' => M' = M ∧ acc = ys.take i, ⟨rfl, by simp⟩, fun i d acc M' hx hj => ?_, fun acc M' hj => ?_⟩
  · obtain ⟨rfl, rfl⟩ := hj
    exact h i d hx
  · obtain ⟨rfl, rfl⟩ := hj
    rw [← hy, List.take_length]; exact hp
theorem lc_post {ys : List D} {i : Nat} {y : D} (hl : ys.length ≤ 100000) (e : ys[i]? = some y) : (ys.take i).length < 100000 ∧ (M = M ∧ ys.take i ++ [y] = ys.take (i + 1)) := by
  obtain ⟨h, rfl⟩ := List.getElem?_eq_some_iff.mp e
  refine ⟨by rw [List.length_take]; omega, rfl, ?_⟩
  rw [List.take_succ_eq_append_getElem h]
theorem isi_non_int (h : P (.bl false) M) : IsiA [D.non, .ty "int"] M P := .one .non kb_NoneType_int h
theorem isi_non_bool (h : P (.bl false) M) : IsiA [D.non, .ty "bool"] M P := .one .non kb_NoneType_bool h
theorem isi_non_str (h : P (.bl false) M) : IsiA [D.non, .ty "str"] M P := .one .non kb_NoneType_str h
theorem isi_non_tuple (h : P (.bl false) M) : IsiA [D.non, .ty "tuple"] M P := .one .non kb_NoneType_tuple h
theorem isi_non_list (h : P (.bl false) M) : IsiA [D.non, .ty "list"] M P := .one .non kb_NoneType_list h
theorem isi_non_dict (h : P (.bl false) M) : IsiA [D.non, .ty "dict"] M P := .one .non kb_NoneType_dict h
theorem isi_bl_int {b : Bool} (h : P (.bl true) M) : IsiA [D.bl b, .ty "int"] M P := .one .bl kb_bool_int h
theorem isi_bl_bool {b : Bool} (h : P (.bl true) M) : IsiA [D.bl b, .ty "bool"] M P := .one .bl kb_bool_bool h
theorem isi_bl_str {b : Bool} (h : P (.bl false) M) : IsiA [D.bl b, .ty "str"] M P := .one .bl kb_bool_str h
theorem isi_bl_tuple {b : Bool} (h : P (.bl false) M) : IsiA [D.bl b, .ty "tuple"] M P := .one .bl kb_bool_tuple h
theorem isi_bl_list {b : Bool} (h : P (.bl false) M) : IsiA [D.bl b, .ty "list"] M P := .one .bl kb_bool_list h
theorem isi_bl_dict {b : Bool} (h : P (.bl false) M) : IsiA [D.bl b, .ty "dict"] M P := .one .bl kb_bool_dict h
theorem isi_int_int {i : Int} (h : P (.bl true) M) : IsiA [D.int i, .ty "int"] M P := .one .int kb_int_int h
theorem isi_int_bool {i : Int} (h : P (.bl false) M) : IsiA [D.int i, .ty "bool"] M P := .one .int kb_int_bool h
theorem isi_int_str {i : Int} (h : P (.bl false) M) : IsiA [D.int i, .ty "str"] M P := .one .int kb_int_str h
theorem isi_int_tuple {i : Int} (h : P (.bl false) M) : IsiA [D.int i, .ty "tuple"] M P := .one .int kb_int_tuple h
theorem isi_int_list {i : Int} (h : P (.bl false) M) : IsiA [D.int i, .ty "list"] M P := .one .int kb_int_list h
theorem isi_int_dict {i : Int} (h : P (.bl false) M) : IsiA [D.int i, .ty "dict"] M P := .one .int kb_int_dict h
theorem isi_str_int {z : Str} (h : P (.bl false) M) : IsiA [D.str z, .ty "int"] M P := .one .str kb_str_int h
theorem isi_str_bool {z : Str} (h : P (.bl false) M) : IsiA [D.str z, .ty "bool"] M P := .one .str kb_str_bool h
theorem isi_str_str {z : Str} (h : P (.bl true) M) : IsiA [D.str z, .ty "str"] M P := .one .str kb_str_str h
theorem isi_str_tuple {z : Str} (h : P (.bl false) M) : IsiA [D.str z, .ty "tuple"] M P := .one .str kb_str_tuple h
theorem isi_str_list {z : Str} (h : P (.bl false) M) : IsiA [D.str z, .ty "list"] M P := .one .str kb_str_list h
theorem isi_str_dict {z : Str} (h : P (.bl false) M) : IsiA [D.str z, .ty "dict"] M P := .one .str kb_str_dict h
theorem isi_tup_int {l : List D} (h : P (.bl false) M) : IsiA [D.tup l, .ty "int"] M P := .one .tup kb_tuple_int h
theorem isi_tup_bool {l : List D} (h : P (.bl false) M) : IsiA [D.tup l, .ty "bool"] M P := .one .tup kb_tuple_bool h
theorem isi_tup_str {l : List D} (h : P (.bl false) M) : IsiA [D.tup l, .ty "str"] M P := .one .tup kb_tuple_str h
theorem isi_tup_tuple {l : List D} (h : P (.bl true) M) : IsiA [D.tup l, .ty "tuple"] M P := .one .tup kb_tuple_tuple h
theorem isi_tup_list {l : List D} (h : P (.bl false) M) : IsiA [D.tup l, .ty "list"] M P := .one .tup kb_tuple_list h
theorem isi_tup_dict {l : List D} (h : P (.bl false) M) : IsiA [D.tup l, .ty "dict"] M P := .one .tup kb_tuple_dict h
theorem isi_tpn_int {l : List D} (h : P (.bl false) M) : IsiA [D.tpn l, .ty "int"] M P := .one .tpn kb_tuple_int h
theorem isi_tpn_bool {l : List D} (h : P (.bl false) M) : IsiA [D.tpn l, .ty "bool"] M P := .one .tpn kb_tuple_bool h
theorem isi_tpn_str {l : List D} (h : P (.bl false) M) : IsiA [D.tpn l, .ty "str"] M P := .one .tpn kb_tuple_str h
theorem isi_tpn_tuple {l : List D} (h : P (.bl true) M) : IsiA [D.tpn l, .ty "tuple"] M P := .one .tpn kb_tuple_tuple h
theorem isi_tpn_list {l : List D} (h : P (.bl false) M) : IsiA [D.tpn l, .ty "list"] M P := .one .tpn kb_tuple_list h
theorem isi_tpn_dict {l : List D} (h : P (.bl false) M) : IsiA [D.tpn l, .ty "dict"] M P := .one .tpn kb_tuple_dict h
theorem isi_lst_int {l : List D} (h : P (.bl false) M) : IsiA [D.lst l, .ty "int"] M P := .one .lst kb_list_int h
theorem isi_lst_bool {l : List D} (h : P (.bl false) M) : IsiA [D.lst l, .ty "bool"] M P := .one .lst kb_list_bool h
theorem isi_lst_str {l : List D} (h : P (.bl false) M) : IsiA [D.lst l, .ty "str"] M P := .one .lst kb_list_str h
theorem isi_lst_tuple {l : List D} (h : P (.bl false) M) : IsiA [D.lst l, .ty "tuple"] M P := .one .lst kb_list_tuple h
theorem isi_lst_list {l : List D} (h : P (.bl true) M) : IsiA [D.lst l, .ty "list"] M P := .one .lst kb_list_list h
theorem isi_lst_dict {l : List D} (h : P (.bl false) M) : IsiA [D.lst l, .ty "dict"] M P := .one .lst kb_list_dict h
theorem isi_dic_int {kv : List (Key × D)} (h : P (.bl false) M) : IsiA [D.dic kv, .ty "int"] M P := .one .dic kb_dict_int h
theorem isi_dic_bool {kv : List (Key × D)} (h : P (.bl false) M) : IsiA [D.dic kv, .ty "bool"] M P := .one .dic kb_dict_bool h
theorem isi_dic_str {kv : List (Key × D)} (h : P (.bl false) M) : IsiA [D.dic kv, .ty "str"] M P := .one .dic kb_dict_str h
theorem isi_dic_tuple {kv : List (Key × D)} (h : P (.bl false) M) : IsiA [D.dic kv, .ty "tuple"] M P := .one .dic kb_dict_tuple h
theorem isi_dic_list {kv : List (Key × D)} (h : P (.bl false) M) : IsiA [D.dic kv, .ty "list"] M P := .one .dic kb_dict_list h
theorem isi_dic_dict {kv : List (Key × D)} (h : P (.bl true) M) : IsiA [D.dic kv, .ty "dict"] M P := .one .dic kb_dict_dict h
theorem isn_non (h : P (.bl true) M) : IsA (.non) .non M P := .non h
theorem isnt_non (h : P (.bl false) M) : IsNotA (.non) .non M P := .non h
theorem isn_bl {b : Bool} (h : P (.bl false) M) : IsA (.bl b) .non M P := .non h
theorem isnt_bl {b : Bool} (h : P (.bl true) M) : IsNotA (.bl b) .non M P := .non h
theorem isn_int {i : Int} (h : P (.bl false) M) : IsA (.int i) .non M P := .non h
theorem isnt_int {i : Int} (h : P (.bl true) M) : IsNotA (.int i) .non M P := .non h
theorem isn_str {z : Str} (h : P (.bl false) M) : IsA (.str z) .non M P := .non h
theorem isnt_str {z : Str} (h : P (.bl true) M) : IsNotA (.str z) .non M P := .non h
theorem isn_tup {l : List D} (h : P (.bl false) M) : IsA (.tup l) .non M P := .non h
theorem isnt_tup {l : List D} (h : P (.bl true) M) : IsNotA (.tup l) .non M P := .non h
theorem isn_lst {l : List D} (h : P (.bl false) M) : IsA (.lst l) .non M P := .non h
theorem isnt_lst {l : List D} (h : P (.bl true) M) : IsNotA (.lst l) .non M P := .non h
theorem isn_ref {a : Addr} (h : P (.bl false) M) : IsA (.ref a) .non M P := .non h
theorem isnt_ref {a : Addr} (h : P (.bl true) M) : IsNotA (.ref a) .non M P := .non h
theorem isn_exc {a : Addr} (h : P (.bl false) M) : IsA (.exc a) .non M P := .non h
theorem isnt_exc {a : Addr} (h : P (.bl true) M) : IsNotA (.exc a) .non M P := .non h
theorem isn_obj {a : Addr} {fs : List (Str × D)} (h : P (.bl false) M) : IsA (.obj a fs) .non M P := .non h
theorem isnt_obj {a : Addr} {fs : List (Str × D)} (h : P (.bl true) M) : IsNotA (.obj a fs) .non M P := .non h
theorem frz_1 {a : Addr} {l : List D} (h : P (.lst l) []) : FrzA (.ref a) [(a, .lst l)] P := .lst Split.all h
theorem frz_2 {a : Addr} {l : List D} {p : Addr × MO} (h : P (.lst l) [p]) : FrzA (.ref a) [p, (a, .lst l)] P := .lst (List.Perm.swap _ _ _) h
theorem frz_3 {a : Addr} {l : List D} {p q : Addr × MO} (h : P (.lst l) [p, q]) : FrzA (.ref a) [p, q, (a, .lst l)] P := .lst split_3 h
theorem frz_4 {a : Addr} {l : List D} {p q r : Addr × MO} (h : P (.lst l) [p, q, r]) : FrzA (.ref a) [p, q, r, (a, .lst l)] P :=
  .lst (((List.Perm.swap _ _ _).trans ((List.Perm.swap _ _ _).cons _)).trans (((List.Perm.swap _ _ _).cons _).cons _)) h
theorem frz_int {i : Int} (h : P (.int i) M) : FrzA (.int i) M P := .keep h
theorem frz_str {z : Str} (h : P (.str z) M) : FrzA (.str z) M P := .keep h
theorem frz_bl {b : Bool} (h : P (.bl b) M) : FrzA (.bl b) M P := .keep h
theorem frz_tup {l : List D} (h : P (.tup l) M) : FrzA (.tup l) M P := .keep h
theorem frz_lst {l : List D} (h : P (.lst l) M) : FrzA (.lst l) M P := .keep h
theorem frz_non (h : P .non M) : FrzA .non M P := .keep h
theorem len_le {ds : List D} {n : Nat} (h1 : ds.length ≤ n) (h : A) : ds.length ≤ n ∧ A := ⟨h1, h⟩
/-- a call that sees all of memory -/
theorem cmA {S : ASp} {ds : List D} (h : S ds M P EX) : CallM S ds M P EX := ⟨M, [], Split.all, by simpa using h⟩
/-- .. the first object of it -/
theorem cm1 {S : ASp} {ds : List D} {p : Addr × MO} (h : S ds [p] (fun d Mc => P d (Mc ++ M)) (fun x Mc => EX x (Mc ++ M))) : CallM S ds (p :: M) P EX := ⟨_, _, split_head, h⟩
end
end Ab
set_option maxRecDepth 100000
set_option maxHeartbeats 4000000
/-! Ab22: sorted over a tuple of texts. -/
namespace PyProof.Rows
open PySem
section
variable {prog : Program} {w : World} {A : Around} {E : Value → Shared → Prop} {s : Shared}
theorem collect_tupL {l : Addr} {vs : List Value} {Q : List Value → Shared → Prop} (hl : IsTup s.heap l vs.toArray)
    (h : Q vs { s with heap := (s.heap.push (seqObj "list" #[] 0)).update s.heap.objs.size (Obj.mapSeq (· ++ vs.toArray)) }) (hsz : vs.length ≤ sizeLine) :
    wpAny (model prog w) A (collect (.ref l)) Q E s := by
  obtain ⟨o, ho, hc, n, hd⟩ := id hl
  unfold collect
  refine wpAny_bind (wpAny_runValue (codeAny_builtin entry_proto_collect' ?_))
  show wpAny _ _ (do again (.builtin "list.__iadd__" ⟨[← newList [], .ref l], []⟩)) _ _ s
  refine wpAny_bind (wpAny_newList (wpAny_pure ⟨Code.quiet_builtin _ (by decide +kernel), codeAny_builtin entry_list_iadd' ?_⟩))
  show wpAny _ _ (Builtin.List.listExtendWith (.ref s.heap.objs.size) (.ref l) (.ref s.heap.objs.size)) _ _ { s with heap := s.heap.push (seqObj "list" #[] 0) }
  unfold Builtin.List.listExtendWith
  have ho' : (s.heap.push (seqObj "list" #[] 0)).get? l = some o := Heap.get?_push_of_some _ ho
  refine wpAny_bind (wpAny_typeOf (T := "tuple") ⟨o, ho', hc⟩ ?_)
  have ht : (Value.type "tuple" == Value.type "tuple") = true := by rfl
  rw [if_pos (by rw [ht]; simp)]
  refine wpAny_bind (listItems_at ho' hd ?_)
  refine wpAny_bind (listItems_at (xs := #[]) (n := 0) (Heap.get?_push_size _ rfl) rfl ?_)
  rw [if_neg (by simp)]
  refine wpAny_bind (listUpdate_at (xs := #[]) (n := 0) (Heap.get?_push_size _ rfl) rfl ?_ (Nat.zero_le _) (by show (#[] ++ vs.toArray).size ≤ sizeLine + 1; simp only [Array.size_append, List.size_toArray, List.length_nil]; omega))
  refine wpAny_pure ?_
  show wpAny (model prog w) A (do
      let o ← load s.heap.objs.size
      match o.data with
      | .seq xs _ => pure xs.toList
      | _ => unsupported "internal:collect") Q E { s with heap := (s.heap.push (seqObj "list" #[] 0)).update s.heap.objs.size (Obj.mapSeq (· ++ vs.toArray)) }
  refine wpAny_bind (wpAny_load (get?_update_seq (Heap.get?_push_size _ rfl) _) ?_)
  show wpAny _ _ (pure ((#[] : Array Value) ++ vs.toArray).toList) Q E _
  rw [show ((#[] : Array Value) ++ vs.toArray).toList = vs by simp]
  exact wpAny_pure h
theorem sorted_strsT {l : Addr} {vs : List Value} {ss : List Str} {Q : Value → Shared → Prop} (hl : IsTup s.heap l vs.toArray) (hS : StrsAre vs ss) (h64 : vs.length < 64)
    (h : ∀ (out : Array Value) (ss' : List Str), StrsAre out.toList ss' → ss'.Perm ss → sortedS ss' = true → Q (.ref (s.heap.objs.size + 1)) { s with heap := sortedAll s.heap vs out }) :
    wpAny (model prog w) A (call (.builtin "sorted") [.ref l]) Q E s := by
  refine Calls.call_function_entry kind_sorted plain_sorted entry_sorted (args_sorted1 _) ?_
  unfold Builtin.«sorted»
  refine wpAny_bind (m := checkCount "sorted" 1 1 _) (wpAny_pure ?_)
  refine wpAny_bind (collect_tupL hl ?_ (by rw [sizeLine_eq]; omega))
  refine wpAny_bind (wpAny_newList ?_)
  have hsz : ((s.heap.push (seqObj "list" #[] 0)).update s.heap.objs.size (Obj.mapSeq (· ++ vs.toArray))).objs.size = s.heap.objs.size + 1 := by
    rw [Heap.size_update, size_push']
  have hoL : (((s.heap.push (seqObj "list" #[] 0)).update s.heap.objs.size (Obj.mapSeq (· ++ vs.toArray))).push (seqObj "list" vs.toArray 0)).get? (s.heap.objs.size + 1) = some (seqObj "list" vs.toArray 0) := by
    rw [← hsz]; exact Heap.get?_push_size _ rfl
  show wpAny _ _ _ _ _ { s with heap := ((s.heap.push (seqObj "list" #[] 0)).update s.heap.objs.size (Obj.mapSeq (· ++ vs.toArray))).push (seqObj "list" vs.toArray 0) }
  rw [hsz]
  refine wpAny_bind (wpAny_holding (wpAny_call_entry slot_list_sort ⟨_, hoL, rfl⟩ entry_list_sort (list_sort_treeK strKind_oneLt hoL hS.keysOf (fun v₁ v₂ rest e => keyKind_strs (by rw [← e]; exact hS)) h64 fun st' hp hs => ⟨_, rfl, ?_⟩) (args_list_sort _)))
  obtain ⟨ss', h1, h2, h3⟩ := sorted_out_str hS hp hs
  exact wpAny_pure ⟨_, rfl, h _ ss' h1 h2 h3⟩
end
end PyProof.Rows
namespace Ab
open PySem PySem.Spec L2 PyProof.Rows
section
variable {X : Cx}
theorem call_sortedST : CallR X (.builtin "sorted") (fun vs H Q => ∃ (a : Addr) (xs : List Str), vs = [V.ref a] ∧ SqT X.K H a (xs.map V.str) ∧ xs.length < 64 ∧ ∀ (ys : List Str) (p : Addr), ys.Perm xs → sortedS ys = true → H p = none → Q (.ref p) (upd H p (.lst (ys.map V.str)))) := by
  intro pins s σ H vs us Q I r h
  obtain ⟨a, xs, rfl, hs, h64, q⟩ := h
  obtain ⟨its, rv, hl, _⟩ := I.tuple hs
  rw [Vals.ref1 r]
  have hlen0 := rv.length
  rw [List.length_map] at hlen0
  refine PyProof.Rows.sorted_strsT hl rv.strs (by rw [← hlen0]; exact h64) fun out ys h1 h2 h3 => ?_
  obtain ⟨ep, he'⟩ := PyProof.Rows.sortedAll_at s.heap its out
  have hlen : (ys.map V.str).length ≤ sizeLine := by rw [List.length_map, h2.length_eq]; exact small64 h64
  exact ⟨.ref _, upd H (s.heap.objs.size + 1) (.lst (ys.map V.str)), I.laid (t' := s.toks) (fun _ _ => PyProof.Rows.sortedAll_old) (Nat.le_succ _) ⟨hlen, out.toList, ep, vals_of_strs h1, he'⟩, rfl, q ys _ h2 h3 (I.hok.fresh (Nat.le_succ _))⟩
inductive SortedTA : AC
  | txts {ss : List Str} {M : Mem} {P : AK} : ss.length < 64 → (∀ ys : List Str, ys.Perm ss → sortedS ys = true → P (.lst (ys.map D.str)) M) → SortedTA [.tup (ss.map D.str)] M P
theorem okc_sortedT : OkC X (.builtin "sorted") SortedTA := fun F ds vs M P H Q m dv h hP => by
  cases h with
  | txts hl q =>
    cases dv with
    | cons d1 d2 =>
      cases d2
      obtain ⟨a, xs, rfl, e, t⟩ := d1.tup_inv
      have := DVs.strs t rfl
      subst this
      refine ⟨_, call_sortedST, a, _, rfl, e, hl, fun ys p h1 h2 hp => ?_⟩
      obtain ⟨s1, m1, d'⟩ := new_lst (X := X) (F := F) m hp (dvs_strs (bs := ys))
      exact hP _ _ M _ s1 m1 d' (q ys h1 h2)
theorem call_sumT (hc : X.calm = true) : CallR X (.builtin "sum") (fun vs H Q => ∃ (a : Addr) (ns : List Int), vs = [V.ref a] ∧ SqT X.K H a (ns.map V.int) ∧ Q (.int ns.sum) H) := by
  intro pins s σ H vs us Q I r h
  obtain ⟨a, ns, rfl, hs, q⟩ := h
  obtain ⟨its, rv, hl, _⟩ := I.tuple hs
  rw [Vals.ref1 r]
  have hi := rv.ints
  have hl' : s.heap.IsTuple a its.toArray := hl
  obtain ⟨xs, hx⟩ := hi.allInts.items
  have hn : numsOf its.toArray.toList = ns := by rw [show its.toArray.toList = its from rfl, hi.numsOf]
  rw [hx] at hl' hn
  rw [nums_intItems] at hn
  refine PySem.W.ktm_sumG (I.ok.hd hc) hl' fun h' tk t' hk => ?_
  rw [preSum_eq, List.take_of_length_le (by simp), hn]
  exact ⟨.int _, H, I.kept (t' := tk) hk, ⟨_, rfl⟩, q⟩
inductive SumTA : AC
  | tup {ns : List Int} {M : Mem} {P : AK} : P (.int ns.sum) M → SumTA [.tup (ns.map D.int)] M P
theorem okc_sumT (hc : X.calm = true) : OkC X (.builtin "sum") SumTA := fun F ds vs M P H Q m dv h hP => by
  cases h with
  | tup q =>
    cases dv with
    | cons d1 d2 =>
      cases d2
      obtain ⟨a, xs, rfl, e, t⟩ := d1.tup_inv
      have := DVs.rngI t rfl
      subst this
      exact ⟨_, call_sumT hc, a, _, rfl, e, hP _ _ M H (Step.refl H M) m (.int _) q⟩
end
section
variable {M : Mem} {ρ : Rho}
/-- a comprehension that keeps memory as it is: f i is what the turn i gives -/
theorem LcA.fil {vs : List Nat} {g : AG} {tt : AT} {te : AE} {xs : List D} {Pr : List D → Mem → Prop} (f : Nat → Option D)
    (h : ∀ (i : Nat) (d : D), xs[i]? = some d → g d (wipeA ρ vs) M (fun ρ2 M2 => tt ρ2 M2 (fun b M3 => (b = true → te ρ2 M3 (fun y M4 => ((List.range i).filterMap f).length < 100000 ∧ (M4 = M ∧ (List.range i).filterMap f ++ [y] = (List.range (i + 1)).filterMap f)) noX) ∧ (b = false → (M3 = M ∧ (List.range i).filterMap f = (List.range (i + 1)).filterMap f))) noX))
    (hp : Pr ((List.range xs.length).filterMap f) M) : LcA vs g tt te xs ρ M Pr := by
  refine ⟨fun i acc M' => M' = M ∧ acc = (List.range i).filterMap f, ⟨rfl, by simp⟩, fun i d acc M' hx hj => ?_, fun acc M' hj => ?_⟩
  · obtain ⟨rfl, rfl⟩ := hj
    exact h i d hx
  · obtain ⟨rfl, rfl⟩ := hj
    exact hp
theorem fil_yes {f : Nat → Option D} {i : Nat} {y : D} (hi : i < 100000) (e : f i = some y) : ((List.range i).filterMap f).length < 100000 ∧ (M = M ∧ (List.range i).filterMap f ++ [y] = (List.range (i + 1)).filterMap f) := by
  refine ⟨Nat.lt_of_le_of_lt (List.length_filterMap_le _ _) (by simpa using hi), rfl, ?_⟩
  rw [List.range_succ, List.filterMap_append]
  simp [e]
theorem fil_no {f : Nat → Option D} {i : Nat} (e : f i = none) : (M = M ∧ (List.range i).filterMap f = (List.range (i + 1)).filterMap f) := by
  refine ⟨rfl, ?_⟩
  rw [List.range_succ, List.filterMap_append]
  simp [e]
theorem fil_all {α : Type} (l : List α) (g : α → Option D) : (List.range l.length).filterMap (fun i => (l[i]?).bind g) = l.filterMap g := by
  induction l with
  | nil => rfl
  | cons a r ih =>
    rw [List.length_cons, List.range_succ_eq_map, List.filterMap_cons, List.filterMap_map]
    have e : ((fun i => ((a :: r)[i]?).bind g) ∘ Nat.succ) = fun i => (r[i]?).bind g := by funext i; simp
    rw [e, ih]
    cases q : g a <;> simp [q]
theorem aAugS_r {neg : Bool} {to ti te : AE} {k : KE} (h : to ρ M (fun o M1 => ti ρ M1 (fun i M2 => ∃ (a : Addr) (l : List D) (j : Nat) (c : Int), o = .ref a ∧ i = .int (j : Int) ∧ (a, MO.lst l) ∈ M2 ∧ l[j]? = some (.int c) ∧
  te ρ M2 (fun y M3 => ∃ c2 M4, y = .int c2 ∧ PutM M3 a (.lst l) (.lst (l.set j (.int (if neg = true then c - c2 else c + c2)))) M4 ∧ k.nx ρ M4) (fun x M' => k.ex x ρ M')) (fun x M' => k.ex x ρ M')) (fun x M' => k.ex x ρ M')) : aAugS neg to ti te ρ M k := h
end
end Ab
set_option maxRecDepth 100000
set_option maxHeartbeats 4000000
/-! Ab23: data that can be shown; texts in rows of texts. -/
namespace Ab
open PySem PySem.Spec L2 PyProof.Rows
/-- data of at most so much depth and weight, whose repr is told -/
structure Shw (k w : Nat) (p : PyData) : Prop where
  sh : p.showable = true
  nd : p.hasDict = false
  lay : p.canLay0 = true
  dep : p.depth ≤ k
  lv : p.leavesShort 13 = true
  wt : p.weight ≤ w
theorem Shw.int {i : Int} (h : i.natAbs < 10 ^ 12) : Shw 0 40 (.int i) := by
  have e : (10 : Nat) ^ 12 = 1000000000000 := by decide
  have l40 : i.natAbs.log2 < 40 := by
    by_cases h0 : i.natAbs = 0
    · rw [h0]; decide
    · exact (Nat.log2_lt h0).mpr (by rw [e] at h; exact Nat.lt_trans h (by decide))
  refine ⟨by simp only [PyData.showable]; exact decide_eq_true (by omega), by simp [PyData.hasDict], by simp [PyData.canLay0], by simp [PyData.depth], ?_, ?_⟩
  · simp only [PyData.leavesShort]
    exact decide_eq_true (PyData.shown_int_le h)
  · simp only [PyData.weight]
    split <;> omega
theorem Shw.bl {b : Bool} : Shw 0 0 (.bool b) := ⟨by simp [PyData.showable], by simp [PyData.hasDict], by simp [PyData.canLay0], by simp [PyData.depth], by simp [PyData.leavesShort], by simp [PyData.weight]⟩
theorem Shw.non : Shw 0 0 .none := ⟨by simp [PyData.showable], by simp [PyData.hasDict], by simp [PyData.canLay0], by simp [PyData.depth], by simp [PyData.leavesShort], by simp [PyData.weight]⟩
theorem Shw.str {s : Str} {w : Nat} (h : s.length ≤ w) (hc : ∀ c ∈ s.cps.toList, c < 55296) : Shw 0 w (.str s) := by
  refine ⟨by simp [PyData.showable], by simp [PyData.hasDict], ?_, by simp [PyData.depth], ?_, ?_⟩
  · simp only [PyData.canLay0, PyData.strOk]
    rw [Array.all_eq_true_iff_forall_mem]
    intro c hc'
    have := hc c (Array.mem_toList_iff.mpr hc')
    simp; omega
  · simp only [PyData.leavesShort, List.all_eq_true, decide_eq_true_eq]
    intro c hc'
    have := hc c hc'
    have e : (16 : Nat) ^ 8 = 4294967296 := by decide
    omega
  · simp only [PyData.weight]; exact h
theorem Shw.mono {k w k' w' : Nat} {p : PyData} (h : Shw k w p) (hk : k ≤ k') (hw : w ≤ w') : Shw k' w' p := ⟨h.sh, h.nd, h.lay, Nat.le_trans h.dep hk, h.lv, Nat.le_trans h.wt hw⟩
theorem Shw.all {k w : Nat} : ∀ {ps : List PyData}, (∀ p ∈ ps, Shw k w p) → PyData.showableAll ps = true ∧ PyData.hasDictAll ps = false ∧ PyData.canLayAll0 ps = true ∧ PyData.depthAll ps ≤ k ∧ PyData.leavesShortAll 13 ps = true ∧ PyData.weightAll ps ≤ ps.length * (w + 1)
  | [], _ => ⟨by simp [PyData.showableAll], by simp [PyData.hasDictAll], by simp [PyData.canLayAll0], by simp [PyData.depthAll], by simp [PyData.leavesShortAll], by simp [PyData.weightAll]⟩
  | p :: ps, h => by
    obtain ⟨h1, h2, h3, h4, h5, h6⟩ := Shw.all fun q hq => h q (List.mem_cons_of_mem _ hq)
    have g := h p List.mem_cons_self
    have g4 := g.dep
    have g6 := g.wt
    refine ⟨by simp [PyData.showableAll, g.sh, h1], by simp [PyData.hasDictAll, g.nd, h2], by simp [PyData.canLayAll0, g.lay, h3], ?_, by simp [PyData.leavesShortAll, g.lv, h5], ?_⟩
    · simp only [PyData.depthAll]; omega
    · simp only [PyData.weightAll, List.length_cons, Nat.succ_mul]; omega
theorem Shw.tup {k w : Nat} {ps : List PyData} (h : ∀ p ∈ ps, Shw k w p) : Shw (k + 1) (ps.length * (w + 1)) (.tuple ps) := by
  obtain ⟨h1, h2, h3, h4, h5, h6⟩ := Shw.all h
  exact ⟨by simp [PyData.showable, h1], by simp [PyData.hasDict, h2], by simp [PyData.canLay0, h3], by simp only [PyData.depth]; omega, by simp [PyData.leavesShort, h5], by simp only [PyData.weight]; exact h6⟩
theorem Shw.lst {k w : Nat} {ps : List PyData} (h : ∀ p ∈ ps, Shw k w p) : Shw (k + 1) (ps.length * (w + 1)) (.list ps) := by
  obtain ⟨h1, h2, h3, h4, h5, h6⟩ := Shw.all h
  exact ⟨by simp [PyData.showable, h1], by simp [PyData.hasDict, h2], by simp [PyData.canLay0, h3], by simp only [PyData.depth]; omega, by simp [PyData.leavesShort, h5], by simp only [PyData.weight]; exact h6⟩
theorem Shw.fits {k w : Nat} {p : PyData} (h : Shw k w p) (hw : w ≤ 2 ^ 20) : p.shown.length ≤ sizeLine := PyData.shown_fits (by decide) (by decide) h.lv (Nat.le_trans h.wt hw)
theorem Shw.shaped {k w : Nat} {p : PyData} (h : Shw k w p) (hk : k ≤ 64) : SeqAt.shaped p = true := by
  have := h.dep
  unfold SeqAt.shaped
  rw [h.lay, Bool.true_and]
  exact decide_eq_true (by omega)
/-- repr of data that can be shown -/
theorem repr_r {x : D} {p : PyData} {M : Mem} {P : AK} {k w : Nat} (h : Shw k w p) (hk : k ≤ 60) (hw : w ≤ 2 ^ 20) (hp : PyR M x p) (hf : flatD x = none ∨ (∃ a, x = .ref a)) (q : P (.str p.shown) M) : ReprA [x] M P :=
  .mk hp hf h.sh h.nd (Nat.le_trans h.dep hk) (h.fits hw) q
mutual
theorem eqv_same : ∀ p : PyData, p.canLay0 = true → PyData.eqv p p = true
  | .none, _ => by simp [PyData.eqv]
  | .bool b, _ => by simp [PyData.eqv]
  | .int i, _ => by simp [PyData.eqv]
  | .str s, _ => by simp [PyData.eqv]
  | .list xs, h => by
    have := eqvAll_same xs (by simpa [PyData.canLay0] using h)
    simpa [PyData.eqv] using this
  | .tuple xs, h => by
    have := eqvAll_same xs (by simpa [PyData.canLay0] using h)
    simpa [PyData.eqv] using this
  | .dict _, h => by simp [PyData.canLay0] at h
theorem eqvAll_same : ∀ ps : List PyData, PyData.canLayAll0 ps = true → PyData.eqvAll ps ps = true
  | [], _ => by simp [PyData.eqvAll]
  | p :: ps, h => by
    have h' : p.canLay0 = true ∧ PyData.canLayAll0 ps = true := by simpa [PyData.canLayAll0] using h
    simp [PyData.eqvAll, eqv_same p h'.1, eqvAll_same ps h'.2]
end
/-- a text in a row of texts -/
theorem in_strs {M : Mem} {x : D} {L : List Str} {n : Str} {P : AK} (hs : SeqR M x (L.map D.str)) (q : P (.bl (decide (n ∈ L))) M) : InA (.str n) x M P := by
  refine InA.seq (vs := L.map V.str) (vx := .str n) hs rfl ?_ rfl ?_
  · clear hs q
    induction L with
    | nil => exact .nil
    | cons a r ih => exact .cons ⟨rfl, rfl⟩ ih
  · have e : inV (.str n) (L.map V.str) = decide (n ∈ L) := by
      clear hs q
      induction L with
      | nil => rfl
      | cons a r ih =>
        simp only [inV, List.map_cons, List.any_cons] at ih ⊢
        rw [ih]
        by_cases h : n = a
        · subst h; simp [eqV]
        · have h' : ¬ a = n := fun z => h z.symm
          simp [eqV, h, h']
    rw [e]; exact q
/-- a truth in a row of truths -/
theorem in_bls {M : Mem} {x : D} {L : List Bool} {n : Bool} {P : AK} (hs : SeqR M x (L.map D.bl)) (q : P (.bl (decide (n ∈ L))) M) : InA (.bl n) x M P := by
  refine InA.seq (vs := L.map V.bl) (vx := .bl n) hs rfl ?_ rfl ?_
  · clear hs q
    induction L with
    | nil => exact .nil
    | cons a r ih => exact .cons ⟨rfl, rfl⟩ ih
  · have e : inV (.bl n) (L.map V.bl) = decide (n ∈ L) := by
      clear hs q
      induction L with
      | nil => rfl
      | cons a r ih =>
        simp only [inV, List.map_cons, List.any_cons] at ih ⊢
        rw [ih]
        by_cases h : n = a
        · subst h; simp [eqV]
        · have h' : ¬ a = n := fun z => h z.symm
          cases n <;> cases a <;> simp_all [eqV]
    rw [e]; exact q
end Ab
set_option maxRecDepth 100000
set_option maxHeartbeats 4000000
/-! Ab24: the head: facts of classes of exceptions besides. -/
namespace Ab
open PySem PySem.Spec L2 PyProof.Rows
/-- a fact more -/
inductive Xa where
  | excC (x : Str)
  | kit1 (x y : Str) (b : Bool)
  | kitn (x : Str) (ys : List Str) (b : Bool)
  | exb (x : Str) (bs : List Value) (new : String)
def excCB (K : PySem.W.Frag) (C : Addr) : Bool :=
  decide (PySem.W.findIn K (.ref C) "__getattribute__" = some (some (.builtin "BaseException.__getattribute__"))) && (decide (PySem.W.findIn K (.ref C) "__getattr__" = some none) &&
  (decide (PySem.W.subIn K (.ref C) (.type "BaseException") = some true) && (PySem.W.hasDictIn K C && (decide (PySem.W.findIn K (.ref C) "__class__" = some (some (.builtin "object.__class__"))) &&
  (decide (PySem.W.specialIn K (.builtin "object.__class__") "__get__" = some (some (.builtin "getset_descriptor.__get__"))) && (decide (PySem.W.takesIn K (.builtin "object.__class__") = some true) && decide (PySem.W.mroIn K C (.type "object") = some true)))))))
theorem excCB_ok {K : PySem.W.Frag} {C : Addr} (h : excCB K C = true) : ExcC K C := by
  obtain ⟨h1, h⟩ := He.ba h
  obtain ⟨h2, h⟩ := He.ba h
  obtain ⟨h3, h⟩ := He.ba h
  obtain ⟨h4, h⟩ := He.ba h
  obtain ⟨h5, h⟩ := He.ba h
  obtain ⟨h6, h⟩ := He.ba h
  obtain ⟨h7, h8⟩ := He.ba h
  exact ⟨of_decide_eq_true h1, of_decide_eq_true h2, of_decide_eq_true h3, h4, of_decide_eq_true h5, of_decide_eq_true h6, of_decide_eq_true h7, of_decide_eq_true h8⟩
def Xa.ok (K : PySem.W.Frag) : Xa → Bool
  | .excC x => excCB K (He.ga K x)
  | .kit1 x y b => decide (PySem.W.kitOne K (.ref (He.ga K x)) (.ref (He.ga K y)) = some b)
  | .kitn x ys b => decide (PySem.W.kitAny K (.ref (He.ga K x)) (ys.map fun y => Value.ref (He.ga K y)) = some b)
  | .exb x bs new => PySem.W.excIn K (He.ga K x) bs new && (PySem.W.keepIn K (.ref (He.ga K x)) && (decide (PySem.W.subIn K (.ref (He.ga K x)) (.type "BaseException") = some true) && decide (PySem.W.typeIn K (.ref (He.ga K x)) = some (.type "type"))))
section
variable {K : PySem.W.Frag}
theorem xexcC {x : Str} (c : (Xa.excC x).ok K = true) : ExcC K (He.ga K x) := excCB_ok c
theorem xkit1 {x y : Str} {b : Bool} (c : (Xa.kit1 x y b).ok K = true) : PySem.W.kitOne K (.ref (He.ga K x)) (.ref (He.ga K y)) = some b := of_decide_eq_true c
theorem xkitn {x : Str} {ys : List Str} {b : Bool} (c : (Xa.kitn x ys b).ok K = true) : PySem.W.kitAny K (.ref (He.ga K x)) (ys.map fun y => Value.ref (He.ga K y)) = some b := of_decide_eq_true c
theorem xexb {x : Str} {bs : List Value} {new : String} (c : (Xa.exb x bs new).ok K = true) : PySem.W.excIn K (He.ga K x) bs new = true ∧ PySem.W.keepIn K (.ref (He.ga K x)) = true ∧ PySem.W.subIn K (.ref (He.ga K x)) (.type "BaseException") = some true ∧
    PySem.W.typeIn K (.ref (He.ga K x)) = some (.type "type") := by
  obtain ⟨c1, c⟩ := He.ba c
  obtain ⟨c2, c⟩ := He.ba c
  obtain ⟨c3, c4⟩ := He.ba c
  exact ⟨c1, c2, of_decide_eq_true c3, of_decide_eq_true c4⟩
end
abbrev AlX : Type := Bool × He.AlD
def obsX (xs : List Xa) (fa : List He.Fa) (fn : List He.DefD) (K : PySem.W.Frag) : AlX := (xs.all fun x => x.ok K, He.obsD fa fn K)
def valX (fn : List He.DefD) : AlX := (true, He.valD fn)
def obsXG (n : Nat) (xs : List Xa) (fa : List He.Fa) (fn : List He.DefD) (g : Addr → Option Obj) : AlX := obsX xs fa fn (He.frG g (He.asD g n))
def hookX (n : Nat) (xs : List Xa) (fa : List He.Fa) (fn : List He.DefD) : PySem.W.Hook where
  α := AlX
  obs := fun s => obsXG n xs fa fn s.heap.get?
  val := fun _ => valX fn
  says := fun _ h => ∃ K : PySem.W.Frag, K.In h ∧ (xs.all fun x => x.ok K) = true ∧ He.SaysD fa fn K
  of := fun _ _ e => ⟨_, He.frG_in, congrArg (fun z : AlX => z.1) e, congrArg (fun z : AlX => z.2) e⟩
  keeps := fun _ _ _ ⟨K, hK, c⟩ k => ⟨K, PySem.W.Frag.In.keeps hK k, c⟩
theorem obsXG_eq {n : Nat} {xs : List Xa} {fa : List He.Fa} {fn : List He.DefD} {g : Addr → Option Obj} {s : Shared} (h : ∀ a, g a = s.heap.get? a) : obsXG n xs fa fn g = (hookX n xs fa fn).obs s := by
  have e : g = s.heap.get? := funext h
  rw [e] <;> rfl
theorem xat {xs : List Xa} {K : PySem.W.Frag} (c : (xs.all fun x => x.ok K) = true) (i : Nat) {x : Xa} (h : xs[i]? = some x := by rfl) : x.ok K = true := List.all_eq_true.mp c x (List.mem_of_getElem? h)
/-- the law's own call: the script is read alone -/
theorem law_sp {K : PySem.W.Frag} {H : Hp} {a : Addr} {ns : List Int} {S : ASp} (hS : SqL K H a (ns.map V.int)) (h : S [.lsk (ns.map D.int)] [] (fun d _ => d = .bl true) (fun _ _ => False)) : spOf K S [.ref a] H (fun v _ => v = .bl true) fun _ _ _ => False := by
  have dvI : ∀ ns : List Int, DVs K H (um [] []) (ns.map V.int) (ns.map D.int) := fun ns => by
    induction ns with
    | nil => exact .nil
    | cons i r ih => exact .cons (.int i) ih
  refine ⟨[], _, [], _, _, .cons ?_ .nil, ⟨List.nodup_nil, fun p hp => by (cases hp), fun b hb => by (cases hb)⟩, h, fun v d M' H' _ _ dv e => ?_, fun _ _ _ _ _ _ _ _ q => q⟩
  · rcases hS with q | q
    · exact .lsk q (by simp [um, dom]) (dvI ns)
    · exact .lskK (fun H' => Or.inr q) (dvI ns)
  · subst e
    cases dv
    rfl
end Ab
set_option maxRecDepth 100000
set_option maxHeartbeats 4000000
/-! Ab25: targets with a star. -/
namespace Ab
open PySem PySem.Spec L2 PyProof.Rows PySem.W
theorem unpack_starT {prog : Program} {w : World} {A : Around} {E : Value → Shared → Prop} {s : Shared} {l : Addr} {items : Array Value} {n i : Nat} {Q : List Value → Shared → Prop} (hl : IsTup s.heap l items) (hh : A.handled = none) (hi : i < n) (hn : n ≤ items.size + 1) (hz : items.size ≤ 16384)
    (h : ∀ (h' : Heap) (tk : Nat), (∀ b o, s.heap.get? b = some o → h'.get? b = some o) → Q (items.toList.take i ++ [.ref h'.objs.size] ++ (items.toList.drop i).drop (items.size + 1 - n)) { s with heap := h'.push { cls := .type "list", data := .seq ((items.toList.drop i).take (items.size + 1 - n)).toArray }, toks := tk }) : wpAny (model prog w) A (unpackItems (.ref l) n (some i)) Q E s := by
  have hlt : l ≠ s.heap.objs.size := by obtain ⟨o, ho, _⟩ := hl; exact Nat.ne_of_lt (Heap.lt_size ho)
  have hll : l < s.heap.objs.size := by obtain ⟨o, ho, _⟩ := hl; exact Heap.lt_size ho
  unfold unpackItems
  refine wpAny_bind ?_
  unfold notIterableAtAll
  refine wpAny_bind (wpAny_specialOf hl.typeIs slot_tuple_iter.lookup ?_)
  refine wpAny_pure ?_
  simp only [Bool.false_eq_true, if_false]
  refine wpAny_bind (wpAny_holding (iter_tuple hl ?_))
  refine wpAny_bind (wpAny_holding (draw_tuple hlt i 0 _ _ ⟨_, Heap.get?_push_size _ rfl, rfl, rfl⟩ (hl.push _) (by omega) fun h₁ hit₁ hs₁ => ?_))
  have hl₁ : IsTup h₁ l items := (hl.push _).extBut hs₁.extBut hlt
  rw [Nat.zero_add] at hit₁
  have hit₁' := hit₁
  obtain ⟨oi, hoi, _⟩ := hit₁'
  have hl₁' := hl₁
  obtain ⟨ol, hol, _⟩ := hl₁'
  rw [List.drop_zero]
  have hfl : (items.toList.take i).length = i := by rw [List.length_take, Array.length_toList]; omega
  rw [if_neg (show ¬ ((items.toList.take i).length < i) by rw [hfl]; omega)]
  refine wpAny_bind (wpAny_holding (kun_collect (s := { s with heap := h₁ }) (T := "tuple_iterator") (.inr (.inr (.inr rfl))) (Walks.tuple (A := A.in1) hh s.heap.objs.size l hlt items) (fun j u st => st.1.typeIs) (k := i) (by omega) ⟨hit₁, hl₁⟩ (Heap.lt_size hoi) (Heap.lt_size hol) (fun h₂ tk hk => ?_) (by rw [sizeLine_eq]; omega)))
  have hrl : (items.toList.drop i).length = items.size - i := by rw [List.length_drop, Array.length_toList]
  have hmid : (items.toList.drop i).length - (n - 1 - i) = items.size + 1 - n := by rw [hrl]; omega
  show wpAny _ _ (if (items.toList.drop i).length < n - 1 - i then _ else _) _ _ _
  rw [if_neg (by rw [hrl]; omega)]
  show wpAny _ _ (newList ((items.toList.drop i).take ((items.toList.drop i).length - (n - 1 - i))) >>= fun d => pure (items.toList.take i ++ [d] ++ (items.toList.drop i).drop ((items.toList.drop i).length - (n - 1 - i)))) _ _ _
  rw [hmid]
  have he : Heap.ExtBut s.heap.objs.size s.heap h₂ := fun b o hb e => hk b o hb (hs₁.extBut b o hb (Heap.get?_push_of_some _ e))
  refine wpAny_bind (wpAny_newList ?_ (by rw [List.length_take, hrl, sizeLine_eq]; omega))
  have hkeep : ∀ b o, s.heap.get? b = some o → h₂.get? b = some o := fun b o e => he b o (Nat.ne_of_lt (Heap.lt_size e)) e
  exact wpAny_pure (h h₂ tk hkeep)
/-- (a, *b, c) = a tuple: b is a new list of what is between -/
def gStarT (K : PySem.W.Frag) (n i : Nat) (t : TGs) : TG := fun v σ H Q => ∃ a xs, v = .ref a ∧ SqT K H a xs ∧ i < n ∧ n ≤ xs.length + 1 ∧ xs.length ≤ 16384 ∧
  ∀ p, H p = none → t (xs.take i ++ [.ref p] ++ (xs.drop i).drop (xs.length + 1 - n)) σ (upd H p (.lst ((xs.drop i).take (xs.length + 1 - n)))) Q
theorem pg_starT {X : Cx} {pos : Pos} {es : List Expr} {k : Nat} {t : TGs} {n i : Nat} (hc : X.calm = true) (h : PGs X es t)
    (hn : (assignEach es X.env).length = n := by rfl) (hst : (assignEach es X.env).findIdx? (·.1) = some i := by rfl) : PG X (.Tuple es k pos) (gStarT X.K n i t) := by
  refine ⟨fun pins s σ H v u Q I r hw => ?_⟩
  obtain ⟨a, xs, e1, hq, hi, hl, hz, hw⟩ := hw
  subst e1
  cases r
  obtain ⟨its, rv, ht, hz2⟩ := I.tuple hq
  have el : xs.length = its.length := rv.length
  rw [assign_Tuple]
  refine wpAny_bind (wpAny_standAt ?_)
  unfold unpack
  rw [hn, hst]
  refine wpAny_bind (wpAny_holding (unpack_starT ht (I.ok.hd hc) hi (by rw [List.size_toArray, ← el]; exact hl) (by rw [List.size_toArray, ← el]; exact hz) fun h' tk kp => ?_))
  have I1 : Inv X pins σ H { s with heap := h' } := I.kept (t' := s.toks) kp
  have r2 : Vals ((xs.drop i).take (xs.length + 1 - n)) ((its.drop i).take (its.length + 1 - n)) := by rw [el]; exact (rv.drop i).take _
  have I2 := I1.lnew (t' := tk) r2 (by rw [List.length_take, List.length_drop]; omega)
  have r3 : Vals (xs.take i ++ [.ref h'.objs.size] ++ (xs.drop i).drop (xs.length + 1 - n)) (its.take i ++ [.ref h'.objs.size] ++ (its.drop i).drop (its.length + 1 - n)) := by
    rw [el]
    have r4 : Vals [V.ref h'.objs.size] [Value.ref h'.objs.size] := .cons (show L2.RelV (V.ref h'.objs.size) (Value.ref h'.objs.size) from rfl) .nil
    exact ((rv.take i).append r4).append ((rv.drop i).drop _)
  have e2 : its.toArray.toList = its := List.toList_toArray
  rw [e2, List.size_toArray]
  exact h.run pins _ σ _ _ _ Q I2 r3 (hw _ I1.fresh)
/-- .. over data -/
def gStarA (n i : Nat) (gs : AGs) : AG := fun d ρ M P => ∃ ds, (d = .tup ds ∨ d = .tpn ds) ∧ i < n ∧ n ≤ ds.length + 1 ∧ ds.length ≤ 16384 ∧ gs (ds.take i ++ [.lst ((ds.drop i).take (ds.length + 1 - n))] ++ (ds.drop i).drop (ds.length + 1 - n)) ρ M P
theorem DV.tup2_inv {K : PySem.W.Frag} {H : Hp} {U : List Addr} {v : V} {d : D} {ds : List D} (e : d = .tup ds ∨ d = .tpn ds) (h : DV K H U v d) : ∃ a xs, v = .ref a ∧ SqT K H a xs ∧ DVs K H U xs ds := by
  rcases e with rfl | rfl
  · exact h.tup_inv
  · obtain ⟨a, xs, e1, e2, e3, _⟩ := h.tpn_inv
    exact ⟨a, xs, e1, e2, e3⟩
theorem dg_star {X : Cx} {pos : Pos} {es : List Expr} {j : Nat} {gs : AGs} {n i : Nat} {vs : List Nat} (hc : X.calm = true) (h : DenGs X es vs gs) (hn : (assignEach es X.env).length = n := by rfl) (hst : (assignEach es X.env).findIdx? (·.1) = some i := by rfl) : DenG X (.Tuple es j pos) vs (gStarA n i gs) :=
  ⟨fun F v d ρ M P W σ H Q S dv tk q hP => fun pins s u I r => by
    obtain ⟨ds, e, hi, hl, hz, q⟩ := q
    obtain ⟨a, xs, rfl, hs, dvs⟩ := dv.tup2_inv e
    have el := dvs.length
    refine (pg_starT hc (pgs_gt (X := X)) hn hst).run pins s σ H _ u Q I r ⟨a, xs, rfl, hs, hi, by rw [el]; exact hl, by rw [el]; exact hz, fun p hp => ?_⟩
    have dm : DVs X.K H (um F M) ((xs.drop i).take (xs.length + 1 - n)) ((ds.drop i).take (ds.length + 1 - n)) := by rw [el]; exact (dvs.drop i).take _
    obtain ⟨s1, m1, d1⟩ := new_lst S.ms hp dm
    have dz : DVs X.K (upd H p (.lst ((xs.drop i).take (xs.length + 1 - n)))) (um F M) (xs.take i ++ [.ref p] ++ (xs.drop i).drop (xs.length + 1 - n)) (ds.take i ++ [.lst ((ds.drop i).take (ds.length + 1 - n))] ++ (ds.drop i).drop (ds.length + 1 - n)) := by
      rw [el] at d1 s1 ⊢
      exact (((dvs.take i).step s1).append (.cons d1 .nil)).append (((dvs.drop i).drop _).step s1)
    exact h.run F _ _ ρ M P W σ _ Q (S.step s1 m1) dz tk q fun ρ' M' σ' H' s2 S2 o p => hP ρ' M' σ' H' (s1.trans s2) S2 o p⟩
theorem pgs_star {X : Cx} {e : Expr} {sp : Pos} {es : List Expr} {t : TG} {u : TGs} (h1 : PG X e t) (h2 : PGs X es u)
    (hs : (assignEach (.Starred e sp :: es) X.env).map (·.2) = assign e X.env :: (assignEach es X.env).map (·.2)) : PGs X (.Starred e sp :: es) (gCons t u) := by
  refine ⟨fun pins s σ H ws us Q I r h => ?_⟩
  obtain ⟨v, vr, e1, h⟩ := h
  subst e1
  cases r with
  | cons r rr =>
    rw [hs]
    refine assignInOrder_cons (thn (h1.run pins s σ H _ _ _ I r h) fun _ s1 ⟨σ1, H1, I1, q1⟩ => ?_)
    exact h2.run pins s1 σ1 H1 _ _ Q I1 rr q1
theorem dgs_star {X : Cx} {tg : Expr} {sp : Pos} {ts : List Expr} {g : AG} {gs : AGs} {vs ws : List Nat} (h1 : DenG X tg vs g) (h2 : DenGs X ts ws gs) (hs : (assignEach (.Starred tg sp :: ts) X.env).map (·.2) = assign tg X.env :: (assignEach ts X.env).map (·.2) := by rfl) : DenGs X (.Starred tg sp :: ts) (vs ++ ws) (gConsA g gs) :=
  ⟨fun F zs ds ρ M P W σ H Q S dv tk h hP => fun pins s us I r => by
    obtain ⟨d, rr, rfl, h⟩ := h
    cases dv with
    | cons a b =>
      exact (pgs_star (pg_gt (X := X)) (pgs_gt (X := X)) hs).run pins s σ H _ us Q I r ⟨_, _, rfl, h1.run F _ d ρ M _ W σ H _ S a tk h fun ρ' M' σ' H' s1 S1 o1 q =>
        h2.run F _ rr ρ' M' P W σ' H' Q S1 (b.step s1) tk q fun ρ2 M2 σ2 H2 s2 S2 o2 p => hP ρ2 M2 σ2 H2 (s1.trans s2) S2 (o1.trans o2) p⟩⟩
theorem gStarA_t {n i : Nat} {gs : AGs} {ds : List D} {ρ : Rho} {M : Mem} {PR : Rho → Mem → Prop} (h1 : i < n) (h2 : n ≤ ds.length + 1) (h3 : ds.length ≤ 16384) (h : gs (ds.take i ++ [.lst ((ds.drop i).take (ds.length + 1 - n))] ++ (ds.drop i).drop (ds.length + 1 - n)) ρ M PR) : gStarA n i gs (.tup ds) ρ M PR := ⟨ds, Or.inl rfl, h1, h2, h3, h⟩
end Ab
set_option maxRecDepth 100000
set_option maxHeartbeats 4000000
/-! Ab26: dicts in memory. -/
namespace Ab
open PySem PySem.Spec L2 PyProof.Rows
def keyOf : D → Option Key
  | .int i => some (.inl i)
  | .str s => some (.inr s)
  | _ => none
def valD (kvs : List (Key × D)) (k : Key) : Option D := (kvs.find? fun kv => decide (kv.1 = k)).map (·.2)
def putKD (kvs : List (Key × D)) (k : Key) (d : D) : List (Key × D) :=
  if (kvs.any fun kv => decide (kv.1 = k)) = true then kvs.map (fun kv => if kv.1 = k then (kv.1, d) else kv) else kvs ++ [(k, d)]
def dropD (kvs : List (Key × D)) (k : Key) : List (Key × D) := kvs.filter fun kv => decide (kv.1 ≠ k)
section
variable {K : PySem.W.Frag} {H : Hp} {U : List Addr}
theorem DKs.length {vs : List (Key × V)} {ds : List (Key × D)} (h : DKs K H U vs ds) : vs.length = ds.length := by
  induction ds generalizing vs with
  | nil => cases h; rfl
  | cons a r ih =>
    cases h with
    | cons _ t => exact congrArg Nat.succ (ih t)
theorem DKs.val {k : Key} : ∀ {vs : List (Key × V)} {ds : List (Key × D)}, DKs K H U vs ds → (valV vs k = none ∧ valD ds k = none) ∨ ∃ v d, valV vs k = some v ∧ valD ds k = some d ∧ DV K H U v d
  | _, _, .nil => Or.inl ⟨rfl, rfl⟩
  | _, _, .cons (x := x) a t => by
    by_cases e : x = k
    · exact Or.inr ⟨_, _, by simp [valV, e], by simp [valD, e], a⟩
    · rcases DKs.val (k := k) t with ⟨h1, h2⟩ | ⟨v, d, h1, h2, h3⟩
      · exact Or.inl ⟨by simp [valV, e] at h1 ⊢; exact h1, by simp [valD, e] at h2 ⊢; exact h2⟩
      · exact Or.inr ⟨v, d, by simpa [valV, e] using h1, by simpa [valD, e] using h2, h3⟩
theorem DKs.keys : ∀ {vs : List (Key × V)} {ds : List (Key × D)}, DKs K H U vs ds → vs.map (·.1) = ds.map (·.1)
  | _, _, .nil => rfl
  | _, _, .cons _ t => by rw [List.map_cons, List.map_cons, DKs.keys t]
theorem DKs.vals : ∀ {vs : List (Key × V)} {ds : List (Key × D)}, DKs K H U vs ds → DVs K H U (vs.map (·.2)) (ds.map (·.2))
  | _, _, .nil => .nil
  | _, _, .cons a t => .cons a (DKs.vals t)
theorem DKs.append : ∀ {vs ws : List (Key × V)} {ds es : List (Key × D)}, DKs K H U vs ds → DKs K H U ws es → DKs K H U (vs ++ ws) (ds ++ es)
  | _, _, _, _, .nil, h => h
  | _, _, _, _, .cons a t, h => .cons a (DKs.append t h)
theorem DKs.any (k : Key) {vs : List (Key × V)} {ds : List (Key × D)} (h : DKs K H U vs ds) : (vs.any fun kv => decide (kv.1 = k)) = ds.any fun kv => decide (kv.1 = k) := by
  have e : ∀ {β : Type} (l : List (Key × β)), (l.any fun kv => decide (kv.1 = k)) = (l.map (·.1)).any fun x => decide (x = k) := fun l => by rw [List.any_map]; rfl
  rw [e, e, h.keys]
theorem DKs.put {k : Key} {v : V} {d : D} (hv : DV K H U v d) {vs : List (Key × V)} {ds : List (Key × D)} (h : DKs K H U vs ds) : DKs K H U (putK vs k v) (putKD ds k d) := by
  unfold putK putKD
  rw [h.any k]
  split
  · have go : ∀ {vs : List (Key × V)} {ds : List (Key × D)}, DKs K H U vs ds → DKs K H U (vs.map fun kv => if kv.1 = k then (kv.1, v) else kv) (ds.map fun kv => if kv.1 = k then (kv.1, d) else kv) := by
      intro vs ds h
      induction ds generalizing vs with
      | nil => cases h; exact .nil
      | cons a r ih =>
        cases h with
        | @cons x w ws dd rr h1 h2 =>
          simp only [List.map_cons]
          by_cases e : x = k
          · rw [if_pos e, if_pos e]; exact .cons hv (ih h2)
          · rw [if_neg e, if_neg e]; exact .cons h1 (ih h2)
    exact go h
  · exact h.append (.cons hv .nil)
theorem DKs.drop {k : Key} : ∀ {vs : List (Key × V)} {ds : List (Key × D)}, DKs K H U vs ds → DKs K H U (dropK vs k) (dropD ds k)
  | _, _, .nil => .nil
  | _, _, .cons (x := x) a t => by
    unfold dropK dropD
    rw [List.filter_cons, List.filter_cons]
    by_cases e : x = k
    · simp only [e, ne_eq, not_true_eq_false, decide_false, Bool.false_eq_true, if_false]
      exact DKs.drop t
    · simp only [e, ne_eq, not_false_eq_true, decide_true, if_true]
      exact .cons a (DKs.drop t)
theorem key_v {v : V} {d : D} {k : Key} (e : keyOf d = some k) (h : DV K H U v d) : v = kV k := by
  cases d with
  | int i => cases e; cases h; rfl
  | str s => cases e; cases h; rfl
  | _ => cases e
end
section
variable {X : Cx} {e o i : Expr} {te to ti : AE} {pos p : Pos}
/-- {}, to be changed -/
def aDicM : AE := fun _ M P _ => ∀ q, q ∉ dom M → P (.ref q) (M ++ [(q, .dK [])])
theorem de_dicM : DenE X (.Dict [] [] pos) aDicM :=
  ⟨fun F ρ M P EX W σ H Q S tk h hP hX => (pe_dnewK (X := X)).ew fun q hq => by
    have hn : q ∉ dom M := fun z => S.ms.notin hq (List.mem_append_left _ z)
    exact hP _ _ _ _ (step_newM hq) (mst_newM (mo := .dK []) S.ms hq ⟨[], upd_same, .nil⟩) (.ref q) (h q hn)⟩
/-- a dict that is read -/
inductive DicR (M : Mem) : D → List (Key × D) → Prop
  | mu {a : Addr} {kvs : List (Key × D)} : (a, MO.dK kvs) ∈ M → DicR M (.ref a) kvs
  | fr {kvs : List (Key × D)} : DicR M (.dic kvs) kvs
theorem DicR.inv {M : Mem} {H : Hp} {F : List Addr} {v : V} {d : D} {kvs : List (Key × D)} (h : DicR M d kvs) (m : MSt X.K H F M) (dv : DV X.K H (um F M) v d) : ∃ a vs, v = .ref a ∧ H a = some (.dK vs) ∧ DKs X.K H (um F M) vs kvs := by
  cases h with
  | mu hm =>
    cases dv
    obtain ⟨vs, e1, e2⟩ := m.ok _ hm
    exact ⟨_, vs, rfl, e1, e2⟩
  | fr =>
    cases dv with
    | dic h1 _ h3 => exact ⟨_, _, rfl, h1, h3⟩
/-- d[k], there -/
def aDGet (to ti : AE) : AE := fun ρ M P EX => to ρ M (fun x M1 => ti ρ M1 (fun y M2 => ∃ kvs k d, DicR M2 x kvs ∧ keyOf y = some k ∧ valD kvs k = some d ∧ P d M2) EX) EX
theorem de_dget (hu : X.A.units + 1 < cLine) (ho : DenE X o to) (hi : DenE X i ti) (hs : NoSl i := by intro _ _; rfl) : DenE X (.Subscript o i pos) (aDGet to ti) :=
  ⟨fun F ρ M P EX W σ H Q S tk h hP hX => (pe_dget hu (pe_ew (X := X)) (pe_ew (X := X)) hs).ew
    (ho.run F ρ M _ EX W σ H _ S tk h (fun u x M1 H1 s1 m1 du q => hi.run F ρ M1 _ EX W σ H1 _ (S.step s1 m1) tk q (fun w y M2 H2 s2 m2 dw q2 => by
      obtain ⟨kvs, k, d, hd, hk, hv, q2⟩ := q2
      obtain ⟨a, vs, rfl, e1, e2⟩ := hd.inv m2 (du.step s2)
      have ey := key_v hk dw
      subst ey
      rcases e2.val (k := k) with ⟨_, z⟩ | ⟨v0, d0, z1, z2, z3⟩
      · rw [z] at hv; cases hv
      · rw [z2] at hv; cases hv
        exact ⟨a, v0, rfl, by rw [← z1]; exact DGet.k e1, hP _ _ M2 H2 (s1.trans s2) m2 z3 q2⟩) (hX.step s1)) hX)⟩
/-- d.get(k) -/
def aDGet1 (to ti : AE) : AE := fun ρ M P EX => to ρ M (fun x M1 => (∃ kvs, DicR M1 x kvs) ∧ ti ρ M1 (fun y M2 => ∃ kvs k, DicR M2 x kvs ∧ keyOf y = some k ∧ P ((valD kvs k).getD .non) M2) EX) EX
theorem de_dget1 {apos cpos : Pos} (hu : X.A.units + 1 < cLine) (ho : DenE X o to) (hi : DenE X i ti) (m : M1 X o "get" apos i cpos := by constructor <;> rfl) : DenE X (.Call (.Attribute o "get" apos) [i] [] cpos) (aDGet1 to ti) :=
  ⟨fun F ρ M P EX W σ H Q S tk h hP hX => (pe_dget1 hu (pe_ew (X := X)) (pe_ew (X := X)) m).ew
    (ho.run F ρ M _ EX W σ H _ S tk h (fun u x M1 H1 s1 m1 du q => by
      obtain ⟨⟨kv0, hd0⟩, q⟩ := q
      obtain ⟨a, vs, rfl, e1, e2⟩ := hd0.inv m1 du
      refine ⟨a, rfl, Or.inl ⟨vs, .inl e1⟩, hi.run F ρ M1 _ EX W σ H1 _ (S.step s1 m1) tk q (fun w y M2 H2 s2 m2 dw q2 => ?_) (hX.step s1)⟩
      obtain ⟨kvs, k, hd, hk, q2⟩ := q2
      obtain ⟨a', vs', ea, e1', e2'⟩ := hd.inv m2 (du.step s2)
      cases ea
      have ey := key_v hk dw
      subst ey
      rcases e2'.val (k := k) with ⟨z0, z⟩ | ⟨v0, d0, z1, z2, z3⟩
      · refine ⟨none, by rw [← z0]; exact DGet.k e1', hP _ _ M2 H2 (s1.trans s2) m2 .non ?_⟩
        rw [z] at q2; exact q2
      · refine ⟨some v0, by rw [← z1]; exact DGet.k e1', hP _ _ M2 H2 (s1.trans s2) m2 z3 ?_⟩
        rw [z2] at q2; exact q2) hX)⟩
/-- d.pop(k), there -/
def aDPop (to ti : AE) : AE := fun ρ M P EX => to ρ M (fun x M1 => (∃ kvs, DicR M1 x kvs) ∧ ti ρ M1 (fun y M2 => ∃ a kvs k d M3, x = .ref a ∧ PutM M2 a (.dK kvs) (.dK (dropD kvs k)) M3 ∧ keyOf y = some k ∧ valD kvs k = some d ∧ P d M3) EX) EX
theorem de_dpop {apos cpos : Pos} (ho : DenE X o to) (hi : DenE X i ti) (m : M1 X o "pop" apos i cpos := by constructor <;> rfl) : DenE X (.Call (.Attribute o "pop" apos) [i] [] cpos) (aDPop to ti) :=
  ⟨fun F ρ M P EX W σ H Q S tk h hP hX => (pe_dpop1 (pe_ew (X := X)) (pe_ew (X := X)) m).ew
    (ho.run F ρ M _ EX W σ H _ S tk h (fun u x M1 H1 s1 m1 du q => by
      obtain ⟨⟨kv0, hd0⟩, q⟩ := q
      obtain ⟨a, vs, rfl, e1, e2⟩ := hd0.inv m1 du
      refine ⟨a, rfl, Or.inl ⟨vs, .inl e1⟩, hi.run F ρ M1 _ EX W σ H1 _ (S.step s1 m1) tk q (fun w y M2 H2 s2 m2 dw q2 => ?_) (hX.step s1)⟩
      obtain ⟨a', kvs, k, d, M3, ea, hp, hk, hv, q2⟩ := q2
      subst ea
      have du2 := du.step s2
      cases du
      obtain ⟨vs', e1', e2'⟩ := m2.ok _ hp.old
      have ey := key_v hk dw
      subst ey
      rcases e2'.val (k := k) with ⟨z0, z⟩ | ⟨v0, d0, z1, z2, z3⟩
      · rw [z] at hv; cases hv
      · rw [z2] at hv; cases hv
        have st := hp.step (H := H2) (ho := .dK (dropK vs' k))
        have m3 := hp.mst (ho := .dK (dropK vs' k)) m2 ⟨_, upd_same, (e2'.step st).drop⟩
        exact ⟨vs', k, v0, e1', rfl, z1, hP _ _ M3 _ ((s1.trans s2).trans st) m3 (z3.step st) q2⟩) hX)⟩
/-- d[k] = e -/
def aDPut (to ti te : AE) : AS := fun ρ M k => te ρ M (fun d M1 => to ρ M1 (fun x M2 => ti ρ M2 (fun y M3 => ∃ a kvs kk M4, x = .ref a ∧ PutM M3 a (.dK kvs) (.dK (putKD kvs kk d)) M4 ∧ keyOf y = some kk ∧ kvs.length < 100000 ∧ k.nx ρ M4) (fun z M' => k.ex z ρ M')) (fun z M' => k.ex z ρ M')) (fun z M' => k.ex z ρ M')
theorem ds_dput {value : Expr} {pos' : Pos} (hu : X.A.units + 1 < cLine) (ho : DenE X o to) (hi : DenE X i ti) (hv : DenE X value te) (hs : swapsWith value (some (.Subscript o i pos')) pos.line X.env = pure false := by rfl) : DenS X (.Assign [.Subscript o i pos'] value pos) (aDPut to ti te) :=
  ⟨fun F ρ M k W σ H D S tk h L => fun pins s I => (ps_dput hu (pe_ew (X := X)) (pe_ew (X := X)) (pe_ew (X := X)) hs).run pins s σ H D I
    (hv.run F ρ M _ _ W σ H _ S tk h (fun w d M1 H1 s1 m1 dw q => ho.run F ρ M1 _ _ W σ H1 _ (S.step s1 m1) tk q (fun u x M2 H2 s2 m2 du q2 => hi.run F ρ M2 _ _ W σ H2 _ (S.step (s1.trans s2) m2) tk q2 (fun z y M3 H3 s3 m3 dz q3 => by
      obtain ⟨a, kvs, kk, M4, ex, hp, hk, hl, q3⟩ := q3
      subst ex
      cases du
      obtain ⟨vs, e1, e2⟩ := m3.ok _ hp.old
      have ey := key_v hk dz
      subst ey
      have st := hp.step (H := H3) (ho := .dK (putK vs kk w))
      have m4 := hp.mst (ho := .dK (putK vs kk w)) m3 ⟨_, upd_same, (e2.step st).put (((dw.step s2).step s3).step st)⟩
      have s4 := ((s1.trans s2).trans s3).trans st
      exact ⟨a, _, rfl, DPut.k e1 (by rw [e2.length]; exact Nat.lt_of_lt_of_le hl (by decide)), L.nx ρ M4 σ _ s4 (S.step s4 m4) q3⟩) ((L.step (s1.trans s2)).lx (S.step (s1.trans s2) m2))) ((L.step s1).lx (S.step s1 m1))) (L.lx S))⟩
/-- dict(d): a copy, to be changed -/
inductive DictMA : AC
  | mk {x : D} {kvs : List (Key × D)} {M : Mem} {P : AK} : DicR M x kvs → (∀ q, q ∉ dom M → P (.ref q) (M ++ [(q, .dK kvs)])) → DictMA [x] M P
theorem DKs.stepNew {K : PySem.W.Frag} {H : Hp} {F : List Addr} {M : Mem} {p : Addr} {o : HO} {mo : MO} {vs : List (Key × V)} {ds : List (Key × D)} (h : DKs K H (um F M) vs ds) (m : MSt K H F M) (hp : H p = none) : DKs K (upd H p o) (um F (M ++ [(p, mo)])) vs ds := DKs.step (step_newM hp) h
theorem okc_dictM : OkC X (.type "dict") DictMA := fun F ds vs M P H Q m dv h hP => by
  cases h with
  | @mk x kvs _ _ hd q =>
    cases dv with
    | cons d1 d2 =>
      cases d2
      obtain ⟨a, ws, rfl, e1, e2⟩ := hd.inv m d1
      refine ⟨_, call_dictD, a, ws, rfl, .inl e1, fun p hp => ?_⟩
      have hn : p ∉ dom M := fun z => m.notin hp (List.mem_append_left _ z)
      have s1 : Step H M (upd H p (.dK ws)) (M ++ [(p, .dK kvs)]) := step_newM hp
      exact hP _ _ _ _ s1 (mst_newM (mo := .dK kvs) m hp ⟨ws, upd_same, (e2.stepNew m hp)⟩) (.ref p) (q p hn)
/-- list(d): its keys -/
def keyD : Key → D
  | .inl i => .int i
  | .inr s => .str s
theorem DKs.keyv {K : PySem.W.Frag} {H : Hp} {U : List Addr} : ∀ {vs : List (Key × V)} {ds : List (Key × D)}, DKs K H U vs ds → DVs K H U (vs.map fun kv => kV kv.1) (ds.map fun kv => keyD kv.1)
  | _, _, .nil => .nil
  | _, _, .cons (x := x) _ t => .cons (by cases x <;> constructor) (DKs.keyv t)
inductive ListKA : AC
  | mk {x : D} {kvs : List (Key × D)} {M : Mem} {P : AK} : DicR M x kvs → P (.lst (kvs.map fun kv => keyD kv.1)) M → ListKA [x] M P
theorem okc_listK (hc : X.calm = true) : OkC X (.type "list") ListKA := fun F ds vs M P H Q m dv h hP => by
  cases h with
  | @mk x kvs _ _ hd q =>
    cases dv with
    | cons d1 d2 =>
      cases d2
      obtain ⟨a, ws, rfl, e1, e2⟩ := hd.inv m d1
      refine ⟨_, call_listD hc, a, ws, rfl, .inl e1, fun p hp => ?_⟩
      obtain ⟨s1, m1, d1⟩ := new_lst m hp e2.keyv
      exact hP _ _ M _ s1 m1 d1 q
/-- len(d) -/
inductive LenDA : AC
  | mk {x : D} {kvs : List (Key × D)} {M : Mem} {P : AK} : DicR M x kvs → P (.int (kvs.length : Int)) M → LenDA [x] M P
theorem call_lenD : CallR X (.builtin "len") (fun xs H Q => ∃ (a : Addr) (kvs : List (Key × V)), xs = [.ref a] ∧ H a = some (.dK kvs) ∧ Q (.int (kvs.length : Int)) H) := by
  intro pins s σ H xs us Q I r q
  obtain ⟨a, kvs, ex, hd, q⟩ := q
  subst ex
  rw [Vals.ref1 r]
  exact d_len I (.inl hd) fun t s' I' => ⟨V.int (kvs.length : Int), H, I', ⟨t, rfl⟩, q⟩
theorem okc_lenD : OkC X (.builtin "len") LenDA := fun F ds vs M P H Q m dv h hP => by
  cases h with
  | @mk x kvs _ _ hd q =>
    cases dv with
    | cons d1 d2 =>
      cases d2
      obtain ⟨a, ws, rfl, e1, e2⟩ := hd.inv m d1
      exact ⟨_, call_lenD, a, ws, rfl, e1, by rw [e2.length]; exact hP _ _ M H (Step.refl H M) m (.int _) q⟩
/-- k in d -/
inductive InDA : A2
  | mk {x y : D} {kvs : List (Key × D)} {k : Key} {M : Mem} {P : AK} : DicR M y kvs → keyOf x = some k → P (.bl (valD kvs k).isSome) M → InDA x y M P
inductive NotInDA : A2
  | mk {x y : D} {kvs : List (Key × D)} {k : Key} {M : Mem} {P : AK} : DicR M y kvs → keyOf x = some k → P (.bl (!(valD kvs k).isSome)) M → NotInDA x y M P
theorem op_inDK (hu : X.A.units + 1 < cLine) : OpR X (compareOp .In) (fun x y H Q => ∃ (a : Addr) (kvs : List (Key × V)) (k : Key), x = kV k ∧ y = .ref a ∧ H a = some (.dK kvs) ∧ Q (.bl (valV kvs k).isSome) H) := by
  intro pins s σ H x y v u Q I rx ry h
  obtain ⟨a, kvs, k, rfl, rfl, e, q⟩ := h
  cases ry
  exact d_in hu I (DGet.k e) rx fun s' I' => ⟨V.bl (valV kvs k).isSome, H, I', rfl, q⟩
theorem op_notinDK (hu : X.A.units + 1 < cLine) : OpR X (compareOp .NotIn) (fun x y H Q => ∃ (a : Addr) (kvs : List (Key × V)) (k : Key), x = kV k ∧ y = .ref a ∧ H a = some (.dK kvs) ∧ Q (.bl (!(valV kvs k).isSome)) H) := by
  intro pins s σ H x y v u Q I rx ry h
  obtain ⟨a, kvs, k, rfl, rfl, e, q⟩ := h
  cases ry
  exact d_notIn hu I (DGet.k e) rx fun s' I' => ⟨V.bl (!(valV kvs k).isSome), H, I', rfl, q⟩
theorem DKs.isSome {K : PySem.W.Frag} {H : Hp} {U : List Addr} {vs : List (Key × V)} {ds : List (Key × D)} (h : DKs K H U vs ds) (k : Key) : (valV vs k).isSome = (valD ds k).isSome := by
  rcases h.val (k := k) with ⟨a, b⟩ | ⟨_, _, a, b, _⟩ <;> rw [a, b] <;> rfl
theorem ok_inD (hu : X.A.units + 1 < cLine) : OkA2 X (compareOp .In) InDA := fun F x y v w M P H Q m dv dw h hP => by
  cases h with
  | mk hd hk q =>
    obtain ⟨a, ws, rfl, e1, e2⟩ := hd.inv m dw
    have ex := key_v hk dv
    subst ex
    exact ⟨_, op_inDK hu, a, ws, _, rfl, rfl, e1, by rw [e2.isSome]; exact hP _ _ M H (Step.refl H M) m (.bl _) q⟩
theorem ok_notinD (hu : X.A.units + 1 < cLine) : OkA2 X (compareOp .NotIn) NotInDA := fun F x y v w M P H Q m dv dw h hP => by
  cases h with
  | mk hd hk q =>
    obtain ⟨a, ws, rfl, e1, e2⟩ := hd.inv m dw
    have ex := key_v hk dv
    subst ex
    exact ⟨_, op_notinDK hu, a, ws, _, rfl, rfl, e1, by rw [e2.isSome]; exact hP _ _ M H (Step.refl H M) m (.bl _) q⟩
end
end Ab
set_option maxRecDepth 100000
set_option maxHeartbeats 4000000
/-! Ab27: try: pre; return e / finally: suite; try: pre / finally: suite. -/
namespace L2
open PySem PySem.Spec PyProof.Rows
theorem execs_app (env : Env) : ∀ (a b : List Stmt), execs (a ++ b) env = (execs a env >>= fun f => match f with
    | .next => execs b env
    | f => pure f)
  | [], b => by
    show execs b env = _
    rw [show execs [] env = pure .next from rfl, pure_bind]
  | st :: a, b => by
    rw [List.cons_append]
    have e : ∀ l, execs (st :: l) env = (exec st env >>= fun f => match f with
      | .next => execs l env
      | f => pure f) := fun l => rfl
    rw [e, e, bind_assoc]
    congr 1
    funext f
    cases f with
    | next => exact execs_app env a b
    | ret v => exact (pure_bind _ _).symm
    | brk => exact (pure_bind _ _).symm
    | cont => exact (pure_bind _ _).symm
section
variable {X : Cx} {e : Expr} {pre : List Stmt} {f₀ : Stmt} {fs : List Stmt} {rp pos : Pos} {te : WX → TE} {tp : WX → TS} {tf tfs : TS} {Wout : WX}
def tTryRet (tp : WX → TS) (te : WX → TE) (tf tfs : TS) (Wout : WX) : TS := fun D σ H => tp (wFin tfs Wout) { nx := fun σ1 H1 => te (wFin tfs Wout) σ1 H1 fun v H2 => tf { D with nx := fun _ H3 => D.rt v H3 } σ1 H2, rt := fun _ _ => False, bk := fun _ _ => False, ct := fun _ _ => False } σ H
theorem ps_tryRet (hs : X.stack = X.env :: X.outer) (hf : X.env.frame = some X.env.locals) (hex : X.ex = []) (tk : Takes X Wout)
    (hp : ∀ (W : WX) (pn : List (Addr × Obj)) (xe : Value → Shared → Prop), Takes (X.tr pn xe) W → PassesOwn (model X.prog X.w) X.A X.env xe → PSs (X.tr pn xe) pre (tp W))
    (he : ∀ (W : WX) (pn : List (Addr × Obj)) (xe : Value → Shared → Prop), Takes (X.tr pn xe) W → PassesOwn (model X.prog X.w) X.A X.env xe → PE (X.tr pn xe) e (te W))
    (hfin : PSs X.nox (f₀ :: fs) tf) (hsu : ∀ (a : Addr) (pn : List (Addr × Obj)), PSs (X.suite a pn) (f₀ :: fs) tfs) : PS X (.Try (pre ++ [.Return (some e) rp]) [] [] (f₀ :: fs) pos) (tTryRet tp te tf tfs Wout) := by
  refine ⟨fun pins s σ H D I h => ?_⟩
  have ok := I.ok
  refine wpAny_Try_finally ?_
  rw [execs_app]
  have PO : PassesOwn (model X.prog X.w) X.A X.env (fun x s₁ => wpAny (model X.prog X.w) X.A (noteFrame x X.env) (fun _ s₂ => FinallyRaised X.prog X.w X.A X.xe X.env (f₀ :: fs) (SP X pins D) x s₂) (FinallyRaised X.prog X.w X.A X.xe X.env (f₀ :: fs) (SP X pins D)) s₁) := PassesOwn.looking
  have TK : Takes (X.tr (X.pn ++ pins) (fun x s₁ => wpAny (model X.prog X.w) X.A (noteFrame x X.env) (fun _ s₂ => FinallyRaised X.prog X.w X.A X.xe X.env (f₀ :: fs) (SP X pins D) x s₂) (FinallyRaised X.prog X.w X.A X.xe X.env (f₀ :: fs) (SP X pins D)) s₁)) (wFin tfs Wout) := fun u s' xx => fin_exc hs hf hex ok tk hsu xx
  refine wpAny_bind (wpAny_mono ((hp (wFin tfs Wout) (X.pn ++ pins) _ TK PO).run [] s σ H _ (I.toTry _) h) (fun f s1 q => ?_) fun _ _ z => z)
  cases f with
  | ret u => obtain ⟨_, _, _, _, _, z⟩ := q; exact z.elim
  | brk => obtain ⟨_, _, _, z⟩ := q; exact z.elim
  | cont => obtain ⟨_, _, _, z⟩ := q; exact z.elim
  | next =>
    obtain ⟨σ1, H1, I1, q⟩ := q
    refine wpAny_execs_cons (wpAny_Return_some ?_)
    refine wpAny_mono ((he (wFin tfs Wout) (X.pn ++ pins) _ TK PO).run [] s1 σ1 H1 _ I1 q) (fun u s2 z => ?_) (fun x s1 hx => hx)
    obtain ⟨v, H2, I2, r2, q2⟩ := z
    exact fin_ret hfin (I2.ofTry ok) r2 q2
def tTryNx (tp : WX → TS) (tf tfs : TS) (Wout : WX) : TS := fun D σ H => tp (wFin tfs Wout) { nx := fun σ1 H1 => tf D σ1 H1, rt := fun _ _ => False, bk := fun _ _ => False, ct := fun _ _ => False } σ H
theorem ps_tryNx (hs : X.stack = X.env :: X.outer) (hf : X.env.frame = some X.env.locals) (hex : X.ex = []) (tk : Takes X Wout)
    (hp : ∀ (W : WX) (pn : List (Addr × Obj)) (xe : Value → Shared → Prop), Takes (X.tr pn xe) W → PassesOwn (model X.prog X.w) X.A X.env xe → PSs (X.tr pn xe) pre (tp W))
    (hfin : PSs X.nox (f₀ :: fs) tf) (hsu : ∀ (a : Addr) (pn : List (Addr × Obj)), PSs (X.suite a pn) (f₀ :: fs) tfs) : PS X (.Try pre [] [] (f₀ :: fs) pos) (tTryNx tp tf tfs Wout) := by
  refine ⟨fun pins s σ H D I h => ?_⟩
  have ok := I.ok
  refine wpAny_Try_finally ?_
  have PO : PassesOwn (model X.prog X.w) X.A X.env (fun x s₁ => wpAny (model X.prog X.w) X.A (noteFrame x X.env) (fun _ s₂ => FinallyRaised X.prog X.w X.A X.xe X.env (f₀ :: fs) (SP X pins D) x s₂) (FinallyRaised X.prog X.w X.A X.xe X.env (f₀ :: fs) (SP X pins D)) s₁) := PassesOwn.looking
  have TK : Takes (X.tr (X.pn ++ pins) (fun x s₁ => wpAny (model X.prog X.w) X.A (noteFrame x X.env) (fun _ s₂ => FinallyRaised X.prog X.w X.A X.xe X.env (f₀ :: fs) (SP X pins D) x s₂) (FinallyRaised X.prog X.w X.A X.xe X.env (f₀ :: fs) (SP X pins D)) s₁)) (wFin tfs Wout) := fun u s' xx => fin_exc hs hf hex ok tk hsu xx
  refine wpAny_mono ((hp (wFin tfs Wout) (X.pn ++ pins) _ TK PO).run [] s σ H _ (I.toTry _) h) (fun f s1 q => ?_) fun _ _ z => z
  cases f with
  | ret u => obtain ⟨_, _, _, _, _, z⟩ := q; exact z.elim
  | brk => obtain ⟨_, _, _, z⟩ := q; exact z.elim
  | cont => obtain ⟨_, _, _, z⟩ := q; exact z.elim
  | next =>
    obtain ⟨σ1, H1, I1, q⟩ := q
    show wpAny _ _ (execs [] X.env) _ _ s1
    rw [show execs [] X.env = pure .next from rfl]
    refine wpAny_pure ?_
    refine wpAny_mono (hfin.run pins s1 σ1 H1 D ((I1.ofTry ok).wish _) q) (fun g s2 q2 => ?_) fun _ _ z => z.elim
    have q' := q2.unwish
    cases g with
    | next => exact q'
    | ret w2 => exact q'
    | brk => exact q'
    | cont => exact q'
end
end L2
namespace Ab
open PySem PySem.Spec L2 PyProof.Rows
def noK (nx : Rho → Mem → Prop) (rt : D → Mem → Prop) : KE := ⟨nx, rt, fun _ _ => False, fun _ _ => False, fun _ _ _ => False⟩
/-- what is raised in the body: the suite runs, then it goes on -/
def exFin (us : AS) (k : KE) : Exc → Rho → Mem → Prop := fun x ρ M => us ρ M (noK (fun ρ2 M2 => k.ex x ρ2 M2) fun _ _ => False)
def aTryRet (t : AS) (te : AE) (u us : AS) : AS := fun ρ M k => t ρ M ⟨fun ρ1 M1 => te ρ1 M1 (fun d M2 => u ρ1 M2 (noK (fun _ M3 => k.rt d M3) k.rt)) (fun x M' => exFin us k x ρ1 M'), fun _ _ => False, fun _ _ => False, fun _ _ => False, exFin us k⟩
def aTryNx (t : AS) (u us : AS) : AS := fun ρ M k => t ρ M ⟨fun ρ1 M1 => u ρ1 M1 { k with ex := fun _ _ _ => False }, fun _ _ => False, fun _ _ => False, fun _ _ => False, exFin us k⟩
def retE (body : List Stmt) : Expr := match body.getLast? with
  | some (.Return (some e) _) => e
  | _ => .Constant .none 0 default
def retP (body : List Stmt) : Pos := match body.getLast? with
  | some (.Return _ p) => p
  | _ => default
section
variable {X : Cx} {body : List Stmt} {f₀ : Stmt} {fs : List Stmt} {pos : Pos} {t u us : AS} {te : AE}
theorem exFin_run {F : List Addr} {M M' : Mem} {k : KE} {W : WX} {H H' : Hp} {D : Ends} {σ' : L2.St} {ρ' : Rho} {x : Exc} {cls : Value} {dd : Option Addr} (hus : ∀ (a : Addr) (pn : List (Addr × Obj)), DenB (X.suite a pn) (f₀ :: fs) us) (L : Link X W F H M k D) (s : Step H M H' M') (S' : Sta X H' F M' σ' ρ') (xv : XV X.K H' (um F M') x cls dd) (q : exFin us k x ρ' M') :
    wFin (fun D σ H => ∀ (a : Addr) (pn : List (Addr × Obj)), BW (X.suite a pn) (f₀ :: fs) D σ H) W cls dd σ' H' := fun a pn =>
  (hus a pn).run F ρ' M' _ (fun _ _ _ _ => False) σ' H' _ ⟨S'.sl, S'.ms⟩ takes_no q ⟨fun ρ2 M2 σ2 H2 s2 S2 q2 => L.ex x ρ2 M2 cls dd σ2 H2 (s.trans s2) ⟨S2.sl, S2.ms⟩ (xv.step s2) q2, fun _ _ _ _ _ _ _ z => z.elim, fun _ _ _ _ _ _ z => z.elim, fun _ _ _ _ _ _ z => z.elim, fun _ _ _ _ _ _ _ _ _ _ z => z.elim⟩
theorem ds_tryRet (hb : ∀ (pn : List (Addr × Obj)) (xe : Value → Shared → Prop), PassesOwn (model X.prog X.w) X.A X.env xe → DenB (X.tr pn xe) body.dropLast t)
    (he : ∀ (pn : List (Addr × Obj)) (xe : Value → Shared → Prop), PassesOwn (model X.prog X.w) X.A X.env xe → DenE (X.tr pn xe) (retE body) te)
    (hu : DenB X.nox (f₀ :: fs) u) (hus : ∀ (a : Addr) (pn : List (Addr × Obj)), DenB (X.suite a pn) (f₀ :: fs) us)
    (hbody : body = body.dropLast ++ [.Return (some (retE body)) (retP body)] := by rfl)
    (hx : X.ex = [] := by rfl) (hs : X.stack = X.env :: X.outer := by rfl) (hf : X.env.frame = some X.env.locals := by rfl) : DenS X (.Try body [] [] (f₀ :: fs) pos) (aTryRet t te u us) :=
  ⟨fun F ρ M k W σ H D S tk h L => fun pins s I => by
    rw [hbody]
    refine (ps_tryRet (X := X) (tp := fun W' D σ H => ∀ (pn : List (Addr × Obj)) (xe : Value → Shared → Prop), Takes (X.tr pn xe) W' → PassesOwn (model X.prog X.w) X.A X.env xe → BW (X.tr pn xe) body.dropLast D σ H)
      (te := fun W' σ H Q => ∀ (pn : List (Addr × Obj)) (xe : Value → Shared → Prop), Takes (X.tr pn xe) W' → PassesOwn (model X.prog X.w) X.A X.env xe → EW (X.tr pn xe) (retE body) σ H Q)
      (tf := BW X.nox (f₀ :: fs)) (tfs := fun D σ H => ∀ (a : Addr) (pn : List (Addr × Obj)), BW (X.suite a pn) (f₀ :: fs) D σ H) (Wout := W) hs hf hx tk
      (fun W' pn xe tk' hp => ⟨fun pins s σ H D I h => h pn xe tk' hp pins s I⟩) (fun W' pn xe tk' hp => ⟨fun pins s σ H Q I h => h pn xe tk' hp pins s I⟩) pss_bw (fun a pn => ⟨fun pins s σ H D I h => h a pn pins s I⟩)).run pins s σ H D I ?_
    intro pn xe tk' hp
    refine (hb pn xe hp).run F ρ M _ _ σ H _ ⟨S.sl, S.ms⟩ tk' h ⟨fun ρ1 M1 σ1 H1 s1 S1 q => ?_, fun _ _ _ _ _ _ _ z => z.elim, fun _ _ _ _ _ _ z => z.elim, fun _ _ _ _ _ _ z => z.elim, fun x ρ' M' cls dd σ' H' s1 S' xv q => exFin_run hus L s1 ⟨S'.sl, S'.ms⟩ xv q⟩
    intro pn2 xe2 tk2 hp2
    refine (he pn2 xe2 hp2).run F ρ1 M1 _ _ _ σ1 H1 _ ⟨S1.sl, S1.ms⟩ tk2 q (fun v d M2 H2 s2 m2 dv q2 => ?_) fun x M' cls dd H' s2 m2 xv q2 => exFin_run hus L (s1.trans s2) ⟨S1.sl.step s2, m2⟩ xv q2
    refine hu.run F ρ1 M2 _ (fun _ _ _ _ => False) σ1 H2 _ ⟨S1.sl.step s2, m2⟩ takes_no q2 ⟨fun ρ3 M3 σ3 H3 s3 S3 q3 => L.rt v d M3 H3 ((s1.trans s2).trans s3) S3.ms (dv.step s3) q3, fun v3 d3 M3 H3 s3 m3 dv3 q3 => L.rt v3 d3 M3 H3 ((s1.trans s2).trans s3) m3 dv3 q3, fun _ _ _ _ _ _ z => z.elim, fun _ _ _ _ _ _ z => z.elim, fun _ _ _ _ _ _ _ _ _ _ z => z.elim⟩⟩
theorem ds_tryNx (hb : ∀ (pn : List (Addr × Obj)) (xe : Value → Shared → Prop), PassesOwn (model X.prog X.w) X.A X.env xe → DenB (X.tr pn xe) body t)
    (hu : DenB X.nox (f₀ :: fs) u) (hus : ∀ (a : Addr) (pn : List (Addr × Obj)), DenB (X.suite a pn) (f₀ :: fs) us)
    (hx : X.ex = [] := by rfl) (hs : X.stack = X.env :: X.outer := by rfl) (hf : X.env.frame = some X.env.locals := by rfl) : DenS X (.Try body [] [] (f₀ :: fs) pos) (aTryNx t u us) :=
  ⟨fun F ρ M k W σ H D S tk h L => fun pins s I => by
    refine (ps_tryNx (X := X) (tp := fun W' D σ H => ∀ (pn : List (Addr × Obj)) (xe : Value → Shared → Prop), Takes (X.tr pn xe) W' → PassesOwn (model X.prog X.w) X.A X.env xe → BW (X.tr pn xe) body D σ H)
      (tf := BW X.nox (f₀ :: fs)) (tfs := fun D σ H => ∀ (a : Addr) (pn : List (Addr × Obj)), BW (X.suite a pn) (f₀ :: fs) D σ H) (Wout := W) hs hf hx tk
      (fun W' pn xe tk' hp => ⟨fun pins s σ H D I h => h pn xe tk' hp pins s I⟩) pss_bw (fun a pn => ⟨fun pins s σ H D I h => h a pn pins s I⟩)).run pins s σ H D I ?_
    intro pn xe tk' hp
    refine (hb pn xe hp).run F ρ M _ _ σ H _ ⟨S.sl, S.ms⟩ tk' h ⟨fun ρ1 M1 σ1 H1 s1 S1 q => ?_, fun _ _ _ _ _ _ _ z => z.elim, fun _ _ _ _ _ _ z => z.elim, fun _ _ _ _ _ _ z => z.elim, fun x ρ' M' cls dd σ' H' s1 S' xv q => exFin_run hus L s1 ⟨S'.sl, S'.ms⟩ xv q⟩
    refine hu.run F ρ1 M1 _ (fun _ _ _ _ => False) σ1 H1 _ ⟨S1.sl, S1.ms⟩ takes_no q ⟨fun ρ3 M3 σ3 H3 s3 S3 q3 => L.nx ρ3 M3 σ3 H3 (s1.trans s3) ⟨S3.sl, S3.ms⟩ q3, fun v3 d3 M3 H3 s3 m3 dv3 q3 => L.rt v3 d3 M3 H3 (s1.trans s3) m3 dv3 q3, fun ρ3 M3 σ3 H3 s3 S3 q3 => L.bk ρ3 M3 σ3 H3 (s1.trans s3) ⟨S3.sl, S3.ms⟩ q3, fun ρ3 M3 σ3 H3 s3 S3 q3 => L.ct ρ3 M3 σ3 H3 (s1.trans s3) ⟨S3.sl, S3.ms⟩ q3, fun _ _ _ _ _ _ _ _ _ _ z => z.elim⟩⟩
theorem aTryRet_r {ρ : Rho} {M : Mem} {k : KE} (h : t ρ M ⟨fun ρ1 M1 => te ρ1 M1 (fun d M2 => u ρ1 M2 (noK (fun _ M3 => k.rt d M3) k.rt)) (fun x M' => exFin us k x ρ1 M'), fun _ _ => False, fun _ _ => False, fun _ _ => False, exFin us k⟩) : aTryRet t te u us ρ M k := h
theorem aTryNx_r {ρ : Rho} {M : Mem} {k : KE} (h : t ρ M ⟨fun ρ1 M1 => u ρ1 M1 { k with ex := fun _ _ _ => False }, fun _ _ => False, fun _ _ => False, fun _ _ => False, exFin us k⟩) : aTryNx t u us ρ M k := h
end
end Ab
set_option maxRecDepth 100000
set_option maxHeartbeats 4000000
/-! Ab28: a dict's items walked while it is locked; list(d.values()); walks over a tuple or a list in memory; zip of lists in memory. -/
namespace L2
open PySem PySem.Spec PyProof.Rows
section
variable {X : Cx} {e : Expr} {te : TE} {p apos cpos pos : Pos}
theorem vals_at : ∀ {kvs : List (Key × V)} {vs : List (Key × Value)} (acc : List Value), KV kvs vs → acc.length = vs.length → (∀ (j : Nat) (v : Value), acc[j]? = some v → ∃ k, vs[j]? = some (k, v)) → Vals (kvs.map (·.2)) acc
  | [], _, acc, r, hl, _ => by
    cases r
    have : acc = [] := List.length_eq_zero_iff.mp (by simpa using hl)
    subst this
    exact .nil
  | q :: kvs, _, acc, r, hl, h => by
    cases r with
    | @cons a b as bs h1 t =>
      cases acc with
      | nil => simp at hl
      | cons u acc =>
        obtain ⟨k, e1⟩ := h 0 u rfl
        simp at e1
        refine .cons ?_ (vals_at acc t (by simpa using hl) fun j v e => by simpa using h (j + 1) v (by simpa using e))
        have := h1.2
        rw [e1] at this
        exact this
theorem pe_listVals (hc : X.calm = true) (he : PE X e te) (hg : Gl X "list") (hm : X.mg "list" = none) (hv : bootBuiltins "list" = some (.type "list")) (hbase : attributeBase e "values" X.env (eval e X.env) = eval e X.env := by rfl) (hline : (apos.endLine == cpos.line) = true := by rfl)
    (hs : starEach [.Call (.Attribute e "values" apos) [] [] cpos] X.env = (false, eval (.Call (.Attribute e "values" apos) [] [] cpos) X.env) :: starEach [] X.env := by rfl) :
    PE X (.Call (.Name "list" p) [.Call (.Attribute e "values" apos) [] [] cpos] [] pos) (fun σ H Q => te σ H fun x H1 => ∃ d kvs, x = .ref d ∧ H1 d = some (.dK kvs) ∧ ∀ q, H1 q = none → Q (.ref q) (upd H1 q (.lst (kvs.map (·.2))))) := by
  refine ⟨fun pins s σ H Q I hq => ?_⟩
  refine wpAny_Call_Name_kw (ld_blt I hg hm hv ?_)
  refine PyProof.Rows.callWith_type1 ?_ hs rfl
  rw [hs]
  show wpAny _ _ (spliced ((false, eval (.Call (.Attribute e "values" apos) [] [] cpos) X.env) :: backTo pos (starEach [] X.env))) _ _ s
  refine Calls.spliced_cons ?_
  refine wpAny_Call_method (T := "dict") (id := "dict.values") hbase rfl hline F.plainAttrs_dict F.slot_dict_values F.type_dict_values (thn (he.run pins s σ H _ I hq) fun u s1 ⟨x, H1, I1, rx, d, kvs, ex, hd, q⟩ => ?_)
  subst ex
  obtain rfl : u = Value.ref d := rx
  obtain ⟨hz, hs0, vs, kv, hdo⟩ := I1.hok d _ hd
  obtain ⟨ep, hat⟩ := hdo.dictAt
  have lk : kvs.length = vs.length := Paired.length kv
  have I2 : Inv X pins σ H1 { s1 with heap := s1.heap.push { cls := .type "dict_values", data := .fields #[.ref d] } } := I1.kept (t' := s1.toks) fun b ob q => Heap.get?_push_of_some _ q
  refine ⟨hdo.typeIs, hdo.mapOf.noDict, ?_⟩
  show wpAny _ _ (callWith cpos (.builtin "dict.values") [.ref d] [] []) _ X.xe s1
  refine method_meetsIn F.slot_dict_values F.entry_dict_values rfl (PySem.evalArgs_none ⟨rfl, hdo.typeIs, F.args_dict_values_1 _, _, meets_dict_values (mixKind X.prog X.w) d hs0, ⟨vs, hdo⟩, ?_⟩)
  refine Calls.spliced_nil ?_
  refine PySem.W.kdl_call (PySem.W.kdl_values (knd := mixKind X.prog X.w) (kvs := vs) (ep := ep)) (I1.ok.hd hc) ⟨⟨_, Heap.get?_push_size _ rfl, rfl, rfl⟩, hat.push _⟩ (by omega) fun h' tk acc c' hk hD hacc => ?_
  have hv : Vals (kvs.map (·.2)) acc.toList := vals_at acc.toList kv (by rw [Array.length_toList]; exact hacc.1) fun j v e => hacc.2 j v (by rw [← Array.getElem?_toList]; exact e)
  exact ⟨.ref _, _, I2.laid (t' := tk) hk (Nat.le_refl _) (show ObjOk X.prog X.w _ _ _ (.lst (kvs.map (·.2))) from ⟨by rw [List.length_map]; exact hz, acc.toList, c', hv, by rw [Array.toArray_toList]; exact hD⟩), rfl, q _ I2.fresh⟩
end
end L2
namespace Ab
open PySem PySem.Spec L2 PyProof.Rows
section
variable {X : Cx} {e o : Expr} {te to : AE} {pos p apos cpos : Pos}
/-- list(d.values()) -/
def aListV (te : AE) : AE := fun ρ M P EX => te ρ M (fun x M1 => ∃ kvs, DicR M1 x kvs ∧ P (.lst (kvs.map (·.2))) M1) EX
theorem de_listV (hc : X.calm = true) (he : DenE X e te) (hm : X.mg "list" = none) (hv : bootBuiltins "list" = some (.type "list")) (hg : Gl X "list" := by rfl) (hbase : attributeBase e "values" X.env (eval e X.env) = eval e X.env := by rfl) (hline : (apos.endLine == cpos.line) = true := by rfl)
    (hs : starEach [.Call (.Attribute e "values" apos) [] [] cpos] X.env = (false, eval (.Call (.Attribute e "values" apos) [] [] cpos) X.env) :: starEach [] X.env := by rfl) :
    DenE X (.Call (.Name "list" p) [.Call (.Attribute e "values" apos) [] [] cpos] [] pos) (aListV te) :=
  ⟨fun F ρ M P EX W σ H Q S tk h hP hX => (pe_listVals hc (pe_ew (X := X)) hg hm hv hbase hline hs).ew
    (he.run F ρ M _ EX W σ H _ S tk h (fun v d M1 H1 s1 m1 dv q => by
      obtain ⟨kvs, hd, q⟩ := q
      obtain ⟨a, ws, rfl, e1, e2⟩ := hd.inv m1 dv
      refine ⟨a, ws, rfl, e1, fun p hp => ?_⟩
      obtain ⟨s2, m2, d2⟩ := new_lst m1 hp e2.vals
      exact hP _ _ M1 _ (s1.trans s2) m2 d2 q) hX)⟩
/-- the dict at a is locked while e is told -/
def aLock (te : AE) : AE := fun ρ M P _ => ∃ a kvs, ∀ od ws, ∃ M1, PutM M a (.dK kvs) (.lk od ws kvs) M1 ∧ te ρ M1 (fun d M2 => ∃ M3, PutM M2 a (.lk od ws kvs) (.dK kvs) M3 ∧ P d M3) noX
theorem de_lock (he : DenE X e te) : DenE X e (aLock te) :=
  ⟨fun F ρ M P EX W σ H Q S tk h hP hX => by
    obtain ⟨a, kvs, h⟩ := h
    obtain ⟨M0, hp0, _⟩ := h default []
    obtain ⟨vs, e1, e2⟩ := S.ms.ok _ hp0.old
    refine (pe_lock (pe_ew (X := X))).ew ⟨a, .dK vs, e1, trivial, fun od => ?_⟩
    obtain ⟨M1, hp, h⟩ := h od vs
    have st := hp.step (H := H) (ho := .frz od (.dK vs))
    have m1 := hp.mst (ho := .frz od (.dK vs)) S.ms ⟨upd_same, e2.step st⟩
    refine he.run F ρ M1 _ noX W σ _ _ (S.step st m1) tk h (fun v d M2 H2 s2 m2 dv q => ?_) fun _ _ _ _ _ _ _ _ z => z.elim
    obtain ⟨M3, hp3, q⟩ := q
    obtain ⟨e3, e4⟩ := m2.ok _ hp3.old
    have st3 := hp3.step (H := H2) (ho := .dK vs)
    have m3 := hp3.mst (ho := .dK vs) m2 ⟨vs, upd_same, e4.step st3⟩
    exact ⟨e3, hP v d M3 _ ((st.trans s2).trans st3) m3 (dv.step st3) q⟩⟩
theorem keyD_v {K : PySem.W.Frag} {H : Hp} {U : List Addr} (k : Key) : DV K H U (kV k) (keyD k) := by cases k <;> constructor
theorem DKs.at_ {K : PySem.W.Frag} {H : Hp} {U : List Addr} : ∀ {vs : List (Key × V)} {ds : List (Key × D)} {i : Nat} {k : Key} {d : D}, DKs K H U vs ds → ds[i]? = some (k, d) → ∃ v, vs[i]? = some (k, v) ∧ DV K H U v d
  | _, _, 0, _, _, .cons a _, e => by simp at e; obtain ⟨rfl, rfl⟩ := e; exact ⟨_, rfl, a⟩
  | _, _, i + 1, _, _, .cons _ t, e => by
    obtain ⟨v, h1, h2⟩ := DKs.at_ (i := i) t (by simpa using e)
    exact ⟨v, by simpa using h1, h2⟩
/-- d.items(), d locked -/
def iItemsA (te : AE) : AIC := fun ρ M P EX => te ρ M (fun d M1 => ∃ a od ws kvs, d = .ref a ∧ (a, MO.lk od ws kvs) ∈ M1 ∧ P (kvs.map fun kv => .tup [keyD kv.1, kv.2]) (fun M' => (a, MO.lk od ws kvs) ∈ M') M1) EX
theorem di_items {elts : List Expr} {kk : Nat} {tpos : Pos} (he : DenE X e te) (hbase : attributeBase e "items" X.env (eval e X.env) = eval e X.env := by rfl) (hline : (apos.endLine == cpos.line) = true := by rfl) :
    DenIC X (.Tuple elts kk tpos) (.Call (.Attribute e "items" apos) [] [] cpos) (iItemsA te) :=
  ⟨fun F ρ M P EX W σ H R S tk h hP hX => fun pins s I => (pi_items (pe_ew (X := X)) hbase hline).run pins s σ H R I
    (he.run F ρ M _ EX W σ H _ S tk h (fun v d M1 H1 s1 m1 dv q => by
      obtain ⟨a, od, ws, kvs, rfl, hm, q⟩ := q
      cases dv
      obtain ⟨e1, e2⟩ := m1.ok _ hm
      refine ⟨a, od, ws, rfl, e1, hP _ _ _ M1 H1 s1 m1 (fun F' H' M' s' f' m' hc => ?_) q⟩
      obtain ⟨e3, e4⟩ := m'.ok _ hc
      have ln := e4.length
      refine ⟨fun i d e => ?_, ⟨e3, by rw [List.length_map]; omega⟩⟩
      rw [List.getElem?_map] at e
      cases hq : kvs[i]? with
      | none => rw [hq] at e; cases e
      | some kv =>
        rw [hq] at e; cases e
        obtain ⟨k, x⟩ := kv
        obtain ⟨v, ev, dx⟩ := e4.at_ hq
        have hi := (List.getElem?_eq_some_iff.mp ev).1
        refine ⟨⟨e3, hi⟩, fun y H2 q => ?_⟩
        obtain ⟨T, k', v', e5, rfl, hT, rfl⟩ := q
        rw [ev] at e5; cases e5
        obtain ⟨s2, m2, d2⟩ := new_tup m' hT (.cons (keyD_v k) (.cons dx .nil))
        exact ⟨s2, m2, d2⟩) hX)⟩
/-- a tuple, a list: data or in memory -/
def iSeqA (te : AE) : AIC := fun ρ M P EX => te ρ M (fun d M1 => (∃ l, (d = .tup l ∨ d = .lst l ∨ d = .lsk l) ∧ P l (fun _ => True) M1) ∨ ∃ a l, d = .ref a ∧ (a, MO.lst l) ∈ M1 ∧ P l (fun M' => (a, MO.lst l) ∈ M') M1) EX
theorem pi_seqV {tg : Expr} : PI X tg e (fun σ H R => EW X e σ H fun v H1 => ∃ a, v = .ref a ∧ ((∃ xs, SqT X.K H1 a xs ∧ R (Itt X.K a) H1) ∨ ∃ xs, SqL X.K H1 a xs ∧ R (Itl X.K a) H1)) := by
  refine ⟨fun pins s σ H R I h => ?_⟩
  refine thn ((pe_ew (X := X)).run pins s σ H _ I h) fun u s1 ⟨v, H1, I1, rv, a, ev, q⟩ => ?_
  subst ev
  cases rv
  rcases q with ⟨xs, hq, q⟩ | ⟨xs, hq, q⟩
  · obtain ⟨its, rv, p, hz⟩ := I1.tuple hq
    refine wpAny_pyIter_tuple (show s1.heap.IsTuple a its.toArray from p) ?_
    refine ⟨s1.heap.objs.size, [s1.heap.objs.size], _, _, H1, rfl, I1.kept (t' := s1.toks) fun b o e => Heap.get?_push_of_some _ e, turn_tuple a _, ⟨_, Heap.get?_push_size _ rfl, rfl, rfl⟩, fun b hb => ?_, q⟩
    have e : b = s1.heap.objs.size := by simpa using hb
    subst e
    exact I1.fpOk (Nat.le_refl _) (I1.hok.fresh (Nat.le_refl _))
  · obtain ⟨its, rv, p, hz⟩ := I1.list hq
    refine wpAny_pyIter_list p.isList ?_
    refine ⟨s1.heap.objs.size, [s1.heap.objs.size], _, _, H1, rfl, I1.kept (t' := s1.toks) fun b o e => Heap.get?_push_of_some _ e, turn_list a _, ⟨_, Heap.get?_push_size _ rfl, rfl, rfl⟩, fun b hb => ?_, q⟩
    have e : b = s1.heap.objs.size := by simpa using hb
    subst e
    exact I1.fpOk (Nat.le_refl _) (I1.hok.fresh (Nat.le_refl _))
theorem itC_list {a : Addr} {xs0 : List V} {ds : List D} {H : Hp} {F : List Addr} {M : Mem} {C : Mem → Prop} (hs : ∀ F' H' M', StepX F H M H' M' → FrGo H F F' → MSt X.K H' F' M' → C M' → ∃ xs, SqL X.K H' a xs ∧ DVs X.K H' (um F' M') xs ds) : ItOkC X (Itl X.K a) ds H F M C := fun F' H' M' s' f' m' hc => by
  obtain ⟨xs, h1, h2⟩ := hs F' H' M' s' f' m' hc
  refine ⟨fun i d e => ?_, ⟨xs, h1, Nat.le_of_eq h2.length⟩⟩
  obtain ⟨x, ex, dx⟩ := h2.get e
  refine ⟨⟨xs, x, h1, ex⟩, fun y H2 q => ?_⟩
  obtain ⟨rfl, q⟩ := q
  have := q xs h1
  rw [ex] at this; cases this
  exact ⟨Step.refl _ _, m', dx⟩
theorem itC_tup {a : Addr} {ds : List D} {H : Hp} {F : List Addr} {M : Mem} {C : Mem → Prop} (hs : ∀ F' H' M', StepX F H M H' M' → FrGo H F F' → MSt X.K H' F' M' → C M' → ∃ xs, SqT X.K H' a xs ∧ DVs X.K H' (um F' M') xs ds) : ItOkC X (Itt X.K a) ds H F M C := fun F' H' M' s' f' m' hc => by
  obtain ⟨xs, h1, h2⟩ := hs F' H' M' s' f' m' hc
  refine ⟨fun i d e => ?_, ⟨xs, h1, Nat.le_of_eq h2.length⟩⟩
  obtain ⟨x, ex, dx⟩ := h2.get e
  refine ⟨⟨xs, x, h1, ex⟩, fun y H2 q => ?_⟩
  obtain ⟨rfl, q⟩ := q
  have := q xs h1
  rw [ex] at this; cases this
  exact ⟨Step.refl _ _, m', dx⟩
theorem di_seq {tg : Expr} (hl : DenE X e te) : DenIC X tg e (iSeqA te) :=
  ⟨fun F ρ M P EX W σ H R S tk h hP hX => fun pins s I => (pi_seqV (X := X) (e := e) (tg := tg)).run pins s σ H R I
    (hl.run F ρ M _ EX W σ H _ S tk h (fun v d M1 H1 s1 m1 dv q => by
      rcases q with ⟨l, hd, q⟩ | ⟨a, l, rfl, hm, q⟩
      · rcases hd with rfl | rfl | rfl
        · cases dv with
          | tup h hn t => exact ⟨_, rfl, Or.inl ⟨_, .inl h, hP _ _ _ M1 H1 s1 m1 (itC_tup fun F' H' M' s' f' _ _ => ⟨_, .inl (s'.rd h hn), t.step2X s' f'⟩) q⟩⟩
          | tupK h t => exact ⟨_, rfl, Or.inl ⟨_, h H1, hP _ _ _ M1 H1 s1 m1 (itC_tup fun F' H' M' s' f' _ _ => ⟨_, h H', t.step2X s' f'⟩) q⟩⟩
        · cases dv with
          | lst h hn t => exact ⟨_, rfl, Or.inr ⟨_, SqL.of h, hP _ _ _ M1 H1 s1 m1 (itC_list (xs0 := []) fun F' H' M' s' f' _ _ => ⟨_, SqL.of (s'.keepU h hn), t.step2X s' f'⟩) q⟩⟩
        · cases dv with
          | lsk h hn t => exact ⟨_, rfl, Or.inr ⟨_, .inl h, hP _ _ _ M1 H1 s1 m1 (itC_list (xs0 := []) fun F' H' M' s' f' _ _ => ⟨_, .inl (s'.rd h hn), t.step2X s' f'⟩) q⟩⟩
          | lskK h t => exact ⟨_, rfl, Or.inr ⟨_, h H1, hP _ _ _ M1 H1 s1 m1 (itC_list (xs0 := []) fun F' H' M' s' f' _ _ => ⟨_, h H', t.step2X s' f'⟩) q⟩⟩
      · cases dv
        obtain ⟨ys, e1, e2⟩ := m1.ok _ hm
        refine ⟨_, rfl, Or.inr ⟨_, SqL.of e1, hP _ _ _ M1 H1 s1 m1 (itC_list (xs0 := []) fun F' H' M' s' f' m' hc => ?_) q⟩⟩
        have hc' : (a, MO.lst l) ∈ M' := hc
        obtain ⟨xs, h1, h2⟩ := m'.ok _ hc'
        exact ⟨xs, SqL.of h1, h2⟩) hX)⟩
/-- zip(l, r), two lists: in memory or data -/
inductive SqLC (M : Mem) : D → List D → (Mem → Prop) → Prop
  | mu {a : Addr} {l : List D} : (a, MO.lst l) ∈ M → SqLC M (.ref a) l (fun M' => (a, MO.lst l) ∈ M')
  | fr {l : List D} : SqLC M (.lst l) l (fun _ => True)
def iZipM (t : AA) : AIC := fun ρ M P EX => t ρ M (fun ds M1 => ∃ x y l r C1 C2, ds = [x, y] ∧ SqLC M1 x l C1 ∧ SqLC M1 y r C2 ∧ P (zipD l r) (fun M' => C1 M' ∧ C2 M') M1) EX
theorem SqLC.inv {F : List Addr} {H : Hp} {M : Mem} {x : D} {l : List D} {C : Mem → Prop} {v : V} (h : SqLC M x l C) (m : MSt X.K H F M) (dv : DV X.K H (um F M) v x) : ∃ a xs, v = .ref a ∧ SqL X.K H a xs ∧ ∀ F' H' M', StepX F H M H' M' → FrGo H F F' → MSt X.K H' F' M' → C M' → ∃ xs, SqL X.K H' a xs ∧ DVs X.K H' (um F' M') xs l := by
  cases h with
  | mu hm =>
    cases dv
    obtain ⟨ys, e1, e2⟩ := m.ok _ hm
    exact ⟨_, ys, rfl, SqL.of e1, fun F' H' M' s' f' m' hc => let ⟨xs, h1, h2⟩ := m'.ok _ hc; ⟨xs, SqL.of h1, h2⟩⟩
  | fr =>
    cases dv with
    | lst h hn t => exact ⟨_, _, rfl, SqL.of h, fun F' H' M' s' f' _ _ => ⟨_, SqL.of (s'.keepU h hn), t.step2X s' f'⟩⟩
variable {e2 : Expr} {t : AA} {elts : List Expr} {kk : Nat} {tpos : Pos}
theorem di_zipM (hm : X.mg "zip" = none) (ha : DenA X [e, e2] t) (hg : Gl X "zip" := by rfl) (hs : starEach [e, e2] X.env = (false, eval e X.env) :: starEach [e2] X.env := by rfl) (hpl : (backTo pos (starEach [e2] X.env)).any (·.1) = false := by rfl) : DenIC X (.Tuple elts kk tpos) (.Call (.Name "zip" p) [e, e2] [] pos) (iZipM t) :=
  ⟨fun F ρ M P EX W σ H R S tk h hP hX => fun pins s I => (pi_zip hg hm (pa_gw (X := X)) hs hpl).run pins s σ H R I
    (ha.run F ρ M _ EX W σ H _ S tk h (fun vs ds M1 H1 s1 m1 dv q => by
      obtain ⟨x, y, l, r, C1, C2, rfl, k1, k2, q⟩ := q
      cases dv with
      | cons d1 d2 =>
        cases d2 with
        | cons d2 d3 =>
          cases d3
          obtain ⟨a, xs, rfl, ha, ka⟩ := k1.inv m1 d1
          obtain ⟨b, ys, rfl, hb, kb⟩ := k2.inv m1 d2
          refine ⟨a, b, xs, ys, rfl, ha, hb, hP _ _ _ M1 H1 s1 m1 (fun F' H' M' s' f' m' hc => ?_) q⟩
          obtain ⟨xs, h1, h2⟩ := ka F' H' M' s' f' m' hc.1
          obtain ⟨ys, h3, h4⟩ := kb F' H' M' s' f' m' hc.2
          refine ⟨fun i d e => ?_, ⟨xs, ys, h1, h3, by rw [zipD_length, h2.length, h4.length]; omega⟩⟩
          obtain ⟨x, y, ex, ey, rfl⟩ := zipD_get e
          obtain ⟨v, ev, dx⟩ := h2.get ex
          obtain ⟨w, ew, dy⟩ := h4.get ey
          refine ⟨⟨xs, ys, v, w, h1, h3, ev, ew⟩, fun z H2 zz => ?_⟩
          obtain ⟨T, v', w', rfl, hT, rfl, hv, hw⟩ := zz
          have e1 := hv xs h1
          have e2 := hw ys h3
          rw [ev] at e1; cases e1
          rw [ew] at e2; cases e2
          obtain ⟨s2, m2, d2⟩ := new_tup m' hT (.cons dx (.cons dy .nil))
          exact ⟨s2, m2, d2⟩) hX)⟩
end
end Ab
set_option maxRecDepth 100000
set_option maxHeartbeats 4000000
/-! Ab29: ==, len, repr by a class's own defs. -/
namespace L2
open PySem PySem.Spec PyProof.Rows
section
variable {X : Cx} {k : Nat} {f C : Addr} {fd : FuncData} {ps : List Str} {sp : Sp}
theorem run_sub {A : Around} (G : FnOk X.prog X.w X.K X.mg X.base (L2.CX X.prog X.w) k f fd ps sp) (sb : Sub X k A) {pins : List (Addr × Obj)} {σ : L2.St} {H : Hp} {s : Shared} {Q : VK} {us : List Value} {vs : List V} (I : Inv X pins σ H s)
    (hb : BindsTo s fd ⟨us, []⟩ (ps.zip us)) (r : Vals vs us) (h : sp vs H Q (fun _ _ _ => False)) : wpAny (model X.prog X.w) A (call (.ref f) us) (EP X pins σ Q) X.xe s := by
  have e0 : Env0 X.prog X.w X.K X.mg X.base A X.stack s H := by
    have e := I.env0
    exact ⟨by rw [sb.fr]; exact e.frames, e.mod, e.bs, e.bsz, e.funs, e.frf, e.hok, e.bare⟩
  refine wpAny_call (codeAny_mono (G.run A X.stack s H ⟨us, []⟩ us vs Q _ sb.room e0 hb r h) fun res s' hq => ?_)
  match res, hq with
  | .error e, hq =>
    obtain ⟨_, _, _, _, _, _, _, _, _, _, _, _, z⟩ := hq
    exact z.elim
  | .ok (.ret u), hq => exact I.after hq
/-- what stands on the right of an own == -/
inductive Rgt (K : PySem.W.Frag) (C : Addr) (H : Hp) : V → Prop
  | own {b dy : Addr} {gs : List (Str × V)} : H b = some (.ins C dy gs) → Rgt K C H (.ref b)
  | int {i : Int} : PySem.W.subIn K (.type "int") (.ref C) = some false → Rgt K C H (.int i)
  | str {z : Str} : PySem.W.subIn K (.type "str") (.ref C) = some false → Rgt K C H (.str z)
  | dic {b : Addr} {kvs : List (Key × V)} : PySem.W.subIn K (.type "dict") (.ref C) = some false → H b = some (.dK kvs) → Rgt K C H (.ref b)
theorem nf_self (K : PySem.W.Frag) (C : Addr) : PySem.W.notFirst K C (.ref C) = true := by simp [PySem.W.notFirst]
theorem nf_sub {K : PySem.W.Frag} {C : Addr} {T : String} (h : PySem.W.subIn K (.type T) (.ref C) = some false) : PySem.W.notFirst K C (.type T) = true := by
  unfold PySem.W.notFirst
  rw [h]
  simp
theorem rgt_looks {H : Hp} {y : V} {u : Value} {pins : List (Addr × Obj)} {σ : L2.St} {s : Shared} (I : Inv X pins σ H s) (r : Rgt X.K C H y) (ry : RelV y u) : ∃ tb, PySem.W.Looks (model X.prog X.w) s.heap (typeOf u) tb ∧ PySem.W.notFirst X.K C tb = true := by
  cases r with
  | own h =>
    cases ry
    obtain ⟨mB, J', _⟩ := ins_get I.hok h
    obtain ⟨od', J', _⟩ := J'.look
    exact ⟨.ref C, J'.type, nf_self _ _⟩
  | int h =>
    obtain ⟨t, rfl⟩ := ry
    exact ⟨.type "int", PySem.W.Looks.of_pure rfl, nf_sub h⟩
  | str h =>
    obtain ⟨t, rfl⟩ := ry
    exact ⟨.type "str", PySem.W.Looks.of_pure rfl, nf_sub h⟩
  | @dic b kvs h hb =>
    cases ry
    obtain ⟨_, _, vs, _, dd⟩ := dk_of I.hok hb
    obtain ⟨od, ho, hc⟩ := dd.typeIs
    exact ⟨.type "dict", by
      have z : PySem.W.Looks (model X.prog X.w) s.heap (typeOf (.ref b)) od.cls := (PySem.W.Looks.ld ho).andThen .now
      rw [hc] at z
      exact z, nf_sub h⟩
theorem op_eqOwn (G : FnOk X.prog X.w X.K X.mg X.base (L2.CX X.prog X.w) k f fd ps sp) (hr : Room k X.A) (hs : PySem.W.findIn X.K (.ref C) "__eq__" = some (some (.ref f))) (hf : PySem.W.isFn X.K (.ref f) = true)
    (hb : ∀ (s : Shared) (us : List Value), us.length = 2 → BindsTo s fd ⟨us, []⟩ (ps.zip us)) :
    OpR X (compareOp .Eq) (fun x y H Q => ∃ a dx fs, x = .ref a ∧ H a = some (.ins C dx fs) ∧ Rgt X.K C H y ∧ sp [x, y] H (fun v H' => ∃ b, v = .bl b ∧ Q v H') (fun _ _ _ => False)) := by
  intro pins s σ H x y v u Q I rx ry h
  obtain ⟨a, dx, fs, rfl, ha, hy, h⟩ := h
  cases rx
  obtain ⟨mA, J, _⟩ := ins_get I.hok ha
  obtain ⟨od, J, _⟩ := J.look
  obtain ⟨m, hF⟩ := I.fr
  obtain ⟨tb, ht, hn⟩ := rgt_looks I hy ry
  show wpAny (model X.prog X.w) X.A (richCompare .Eq (.ref a) u) (EP X pins σ Q) X.xe s
  refine PySem.W.cmp_K (op := .Eq) (tb := tb) hr.units0 hF I.ok.mod.kin J ht hn hs hf ?_
  refine wpAny_mono (run_sub G ⟨hr, rfl⟩ I (hb s _ rfl) (.cons (show RelV (.ref a) (.ref a) from rfl) (.cons ry .nil)) h) (fun w s' z => ?_) fun _ _ z => z
  obtain ⟨v', H', I', rv, b, rfl, q⟩ := z
  cases rv
  exact ⟨.bl b, H', I', rfl, q⟩
theorem call_lenOwn (G : FnOk X.prog X.w X.K X.mg X.base (L2.CX X.prog X.w) k f fd ps sp) (hr : Room (k + 1) X.A) (hs : PySem.W.findIn X.K (.ref C) "__len__" = some (some (.ref f))) (hf : PySem.W.isFn X.K (.ref f) = true)
    (hb : ∀ (s : Shared) (us : List Value), us.length = 1 → BindsTo s fd ⟨us, []⟩ (ps.zip us)) :
    CallR X (.builtin "len") (fun xs H Q => ∃ a dx fs, xs = [.ref a] ∧ H a = some (.ins C dx fs) ∧ sp [.ref a] H (fun v H' => ∃ n : Int, v = .int n ∧ (0 ≤ n ∧ n < 2 ^ 63) ∧ Q v H') (fun _ _ _ => False)) := by
  intro pins s σ H xs us Q I r h
  obtain ⟨a, dx, fs, rfl, ha, h⟩ := h
  rw [Vals.ref1 r]
  obtain ⟨mA, J, _⟩ := ins_get I.hok ha
  obtain ⟨od, J, _⟩ := J.look
  obtain ⟨m, hF⟩ := I.fr
  refine PySem.W.len_K hF I.ok.mod.kin J hs hf ?_
  refine wpAny_mono (run_sub G ⟨hr.in1, rfl⟩ I (hb s _ rfl) (.cons (show RelV (.ref a) (.ref a) from rfl) .nil) h) (fun w s' z => ?_) fun _ _ z => z
  obtain ⟨v', H', I', rv, n, rfl, hn, q⟩ := z
  obtain ⟨t, rfl⟩ := rv
  exact ⟨hn, .int n, H', I'.tok _, ⟨_, rfl⟩, q⟩
theorem call_reprOwn (G : FnOk X.prog X.w X.K X.mg X.base (L2.CX X.prog X.w) k f fd ps sp) (hr : Room (k + 1) X.A) (hs : PySem.W.findIn X.K (.ref C) "__repr__" = some (some (.ref f))) (hf : PySem.W.isFn X.K (.ref f) = true)
    (hb : ∀ (s : Shared) (us : List Value), us.length = 1 → BindsTo s fd ⟨us, []⟩ (ps.zip us)) :
    CallR X (.builtin "repr") (fun xs H Q => ∃ a dx fs, xs = [.ref a] ∧ H a = some (.ins C dx fs) ∧ sp [.ref a] H (fun v H' => ∃ z : Str, v = .str z ∧ Q v H') (fun _ _ _ => False)) := by
  intro pins s σ H xs us Q I r h
  obtain ⟨a, dx, fs, rfl, ha, h⟩ := h
  rw [Vals.ref1 r]
  obtain ⟨mA, J, _⟩ := ins_get I.hok ha
  obtain ⟨od, J, _⟩ := J.look
  obtain ⟨m, hF⟩ := I.fr
  refine PySem.W.repr_K hr.in1.units0 hF I.ok.mod.kin J hs hf ?_
  refine wpAny_mono (run_sub G ⟨hr.in1, rfl⟩ I (hb s _ rfl) (.cons (show RelV (.ref a) (.ref a) from rfl) .nil) h) (fun w s' z => ?_) fun _ _ z => z
  obtain ⟨v', H', I', rv, n, rfl, q⟩ := z
  obtain ⟨t, rfl⟩ := rv
  exact ⟨.str n, H', I', ⟨_, rfl⟩, q⟩
end
end L2
set_option maxRecDepth 100000
set_option maxHeartbeats 4000000
/-! Ab30: own operators over data; extend; a, b = x, y; repr of a dict; a dict display to be changed; tuple(range(..)). -/
namespace Ab
open PySem PySem.Spec L2 PyProof.Rows
theorem _root_.L2.Room.units1 {k : Nat} {A : Around} (r : Room k A) : A.units + 1 < cLine := by have := r.un; omega
section
variable {X : Cx} {C : Addr} {S : ASp} {k : Nat}
/-- a class's own def under a name that built-ins call -/
structure Own1 (P : Program) (w : World) (K : PySem.W.Frag) (mg : Str → Option Value) (base : Heap) (C : Addr) (x : Str) (k n : Nat) (S : ASp) : Prop where
  ex : ∃ (f : Addr) (fd : FuncData) (ps : List Str), FnOk P w K mg base (L2.CX P w) k f fd ps (spOf K S) ∧ PySem.W.findIn K (.ref C) x = some (some (.ref f)) ∧ PySem.W.isFn K (.ref f) = true ∧
    ∀ (s : Shared) (us : List Value), us.length = n → BindsTo s fd ⟨us, []⟩ (ps.zip us)
/-- what may stand on the right of an own == -/
inductive RgA (M : Mem) (C : Addr) : D → Prop
  | own {y : D} {gs : List (Str × D)} : InsA M y C gs → RgA M C y
  | int {i : Int} : RgA M C (.int i)
  | str {z : Str} : RgA M C (.str z)
  | dic {y : D} {kvs : List (Key × D)} : DicR M y kvs → RgA M C y
theorem lx_none {H : Hp} {F : List Addr} {M : Mem} {G : XK} : LX X H F M noX G := fun _ _ _ _ _ _ _ _ h => h.elim
def EqOwnA (C : Addr) (S : ASp) : A2 := fun x y M P => (∃ fs, InsA M x C fs) ∧ RgA M C y ∧ CallM S [x, y] M (fun d M' => ∃ b, d = .bl b ∧ P (.bl b) M') noX
theorem ok_eqOwn (h : Own1 X.prog X.w X.K X.mg X.base C "__eq__" k 2 S) (hr : Room k X.A) (hi : PySem.W.subIn X.K (.type "int") (.ref C) = some false) (hs : PySem.W.subIn X.K (.type "str") (.ref C) = some false) (hd : PySem.W.subIn X.K (.type "dict") (.ref C) = some false) :
    OkA2 X (compareOp .Eq) (EqOwnA C S) := fun F x y v w M P H Q m dv dw q hP => by
  obtain ⟨f, fd, ps, G, h1, h2, h3⟩ := h.ex
  obtain ⟨⟨fs, hx⟩, hy, q⟩ := q
  obtain ⟨a, dx, ws, rfl, e1, e2⟩ := hx.inv m dv
  refine ⟨_, op_eqOwn G hr h1 h2 h3, a, dx, ws, rfl, e1, ?_, callM_sp m (.cons dv (.cons dw .nil)) q (fun z d M' H' st m' dz p => ?_) lx_none⟩
  · cases hy with
    | own h =>
      obtain ⟨b, dy, ys, rfl, e3, _⟩ := h.inv m dw
      exact .own e3
    | int => rw [dw.int']; exact .int hi
    | str => rw [dw.str']; exact .str hs
    | dic h =>
      obtain ⟨b, ys, rfl, e3, _⟩ := h.inv m dw
      exact .dic hd e3
  · obtain ⟨b, rfl, p⟩ := p
    cases dz
    exact ⟨b, rfl, hP _ _ M' H' st m' (.bl b) p⟩
def LenOwnA (C : Addr) (S : ASp) : AC := fun ds M P => ∃ x fs, ds = [x] ∧ InsA M x C fs ∧ CallM S [x] M (fun d M' => ∃ n : Int, d = .int n ∧ (0 ≤ n ∧ n < 2 ^ 63) ∧ P d M') noX
theorem okc_lenOwn (h : Own1 X.prog X.w X.K X.mg X.base C "__len__" k 1 S) (hr : Room (k + 1) X.A) : OkC X (.builtin "len") (LenOwnA C S) := fun F ds vs M P H Q m dv q hP => by
  obtain ⟨f, fd, ps, G, h1, h2, h3⟩ := h.ex
  obtain ⟨x, fs, rfl, hx, q⟩ := q
  cases dv with
  | cons d1 d2 =>
    cases d2
    obtain ⟨a, dx, ws, rfl, e1, e2⟩ := hx.inv m d1
    refine ⟨_, call_lenOwn G hr h1 h2 h3, a, dx, ws, rfl, e1, callM_sp m (.cons d1 .nil) q (fun z d M' H' st m' dz p => ?_) lx_none⟩
    obtain ⟨n, rfl, hn, p⟩ := p
    cases dz
    exact ⟨n, rfl, hn, hP _ _ M' H' st m' (.int n) p⟩
def ReprOwnA (C : Addr) (S : ASp) : AC := fun ds M P => ∃ x fs, ds = [x] ∧ InsA M x C fs ∧ CallM S [x] M (fun d M' => ∃ z : Str, d = .str z ∧ P d M') noX
theorem okc_reprOwn (h : Own1 X.prog X.w X.K X.mg X.base C "__repr__" k 1 S) (hr : Room (k + 1) X.A) : OkC X (.builtin "repr") (ReprOwnA C S) := fun F ds vs M P H Q m dv q hP => by
  obtain ⟨f, fd, ps, G, h1, h2, h3⟩ := h.ex
  obtain ⟨x, fs, rfl, hx, q⟩ := q
  cases dv with
  | cons d1 d2 =>
    cases d2
    obtain ⟨a, dx, ws, rfl, e1, e2⟩ := hx.inv m d1
    refine ⟨_, call_reprOwn G hr h1 h2 h3, a, dx, ws, rfl, e1, callM_sp m (.cons d1 .nil) q (fun z d M' H' st m' dz p => ?_) lx_none⟩
    obtain ⟨n, rfl, p⟩ := p
    cases dz
    exact ⟨n, rfl, hP _ _ M' H' st m' (.str n) p⟩
/-! ### l.extend(list) -/
inductive ExtA : AM
  | mk {a : Addr} {l r : List D} {M M' : Mem} {P : AK} : PutM M a (.lst l) (.lst (l ++ r)) M' → l.length + r.length ≤ 100000 → P .non M' → ExtA (.ref a) [.lst r] M P
theorem okm_extend : OkM X "list" "list.extend" ExtA := fun F x v ds vs M P H Q m dv dvs h hP => by
  cases h with
  | @mk a l r _ M' _ hp hz q =>
    cases dv
    cases dvs with
    | @cons w ws _ _ d1 d2 =>
      cases d2
      obtain ⟨xs, e1, e2⟩ := m.ok _ hp.old
      cases d1 with
      | @lst b zs _ hb hn t =>
        have st := hp.step (H := H) (ho := .lst (xs ++ zs))
        have m2 := hp.mst (ho := .lst (xs ++ zs)) m ⟨_, upd_same, (e2.step st).append (t.step st)⟩
        exact ⟨_, mt_extend, _, b, xs, zs, rfl, rfl, e1, hb, by rw [e2.length, t.length]; exact sz hz, hP _ _ _ _ st m2 .non q⟩
/-! ### a, b = x, y -/
def aPar (i j : Nat) (t : AA) : AS := fun ρ M k => t ρ M (fun ds M1 => ∃ x y, ds = [x, y] ∧ k.nx (sS (sS ρ i x) j y) M1) (fun x M' => k.ex x ρ M')
theorem ds_par {i j : Nat} {x y : Str} {a b : Expr} {t : AA} {px py pt pos : Pos} {kt k2 pt2} (hc : X.calm = true) (hN : X.N.Nodup) (ha : DenA X [a, b] t) (hi : X.N[i]? = some x := by rfl) (hj : X.N[j]? = some y := by rfl) (hij : i ≠ j := by decide)
    (hx : X.env.scope.names.lookup x = some .local := by rfl) (hy : X.env.scope.names.lookup y = some .local := by rfl)
    (hw : swappedStores [.Tuple [.Name x px, .Name y py] kt pt] (.Tuple [a, b] k2 pt2) X.env = pure (some [x, y]) := by rfl)
    (hs : swapsWithSole [.Tuple [.Name x px, .Name y py] kt pt] (.Tuple [a, b] k2 pt2) pos.line X.env = pure false := by rfl) :
    DenS X (.Assign [.Tuple [.Name x px, .Name y py] kt pt] (.Tuple [a, b] k2 pt2) pos) (aPar i j t) :=
  ⟨fun F ρ M k W σ H D S tk h L => fun pins s I => (ps_par hc hN hi hj hij hx hy (pa_gw (X := X)) hw hs).run pins s σ H D I
    (ha.run F ρ M _ _ W σ H _ S tk h (fun vs ds M' H' s m dv q => by
      obtain ⟨x, y, rfl, q⟩ := q
      cases dv with
      | @cons v _ _ _ d1 d2 =>
        cases d2 with
        | @cons w _ _ _ d2 d3 =>
          cases d3
          exact ⟨v, w, rfl, L.nx _ M' _ H' s ⟨by rw [sS_set, sS_set]; exact ((S.sl.step s).set d1 i).set d2 j, m⟩ q⟩) (L.lx S))⟩
/-! ### repr of a dict -/
mutual
def tupOnly : PyData → Bool
  | .none | .bool _ | .int _ | .str _ => true
  | .list _ | .dict _ => false
  | .tuple xs => tupOnlys xs
def tupOnlys : List PyData → Bool
  | [] => true
  | x :: r => tupOnly x && tupOnlys r
end
mutual
theorem noAddr {h : Heap} : ∀ {v : Value} {d : PyData} {as : List Addr}, Reads h v d as → tupOnly d = true → as = []
  | _, _, _, .none, _ => rfl
  | _, _, _, .bool _, _ => rfl
  | _, _, _, .int _ _, _ => rfl
  | _, _, _, .str _ _, _ => rfl
  | _, _, _, .list _ _ _ _, e => by simp [tupOnly] at e
  | _, _, _, .tuple _ _ _ t, e => noAddrs t (by simpa [tupOnly] using e)
  | _, _, _, .dict _ _ _ _ _, e => by simp [tupOnly] at e
theorem noAddrs {h : Heap} : ∀ {vs : List Value} {ds : List PyData} {as : List Addr}, ReadsAll h vs ds as → tupOnlys ds = true → as = []
  | _, _, _, .nil, _ => rfl
  | _, _, _, .cons a b, e => by
    simp [tupOnlys] at e
    rw [noAddr a e.1, noAddrs b e.2]; rfl
end
def keyP : Key → PyData
  | .inl i => .int i
  | .inr s => .str s
theorem kv_keys {P : Program} {w : World} {h : Heap} : ∀ {kvs : List (Key × V)} {vs : List (Key × Value)} {es : List DictEntry}, KV kvs vs → Pairs (mixKind P w) es vs → ReadsAll h (es.map (·.key)) (kvs.map fun kv => keyP kv.1) []
  | [], _, _, r, q => by
    cases r
    cases q
    exact .nil
  | (k, v) :: kvs, _, _, r, q => by
    cases r with
    | @cons _ b _ bs h1 t =>
      cases q with
      | @cons e _ es _ h2 h3 h4 =>
        refine ReadsAll.cons (as := []) (bs := []) ?_ (kv_keys t h4)
        have h2' : keyIs b.1 e.key = true := h2
        have h1' : k = b.1 := h1.1
        rw [← h1'] at h2'
        rcases keyIs_shape h2' with ⟨i, u, e1, e2⟩ | ⟨x, u, e1, e2⟩
        · subst e1; show Reads h e.key (.int i) []; rw [e2]; exact .int i u
        · subst e1; show Reads h e.key (.str x) []; rw [e2]; exact .str x u
theorem kv_vals {P : Program} {w : World} : ∀ {kvs : List (Key × V)} {vs : List (Key × Value)} {es : List DictEntry}, KV kvs vs → Pairs (mixKind P w) es vs → Vals (kvs.map (·.2)) (es.map (·.val))
  | [], _, _, r, q => by
    cases r
    cases q
    exact .nil
  | (k, v) :: kvs, _, _, r, q => by
    cases r with
    | @cons _ b _ bs h1 t =>
      cases q with
      | @cons e _ es _ h2 h3 h4 =>
        refine .cons ?_ (kv_vals t h4)
        show RelV v e.val
        rw [h3]; exact h1.2
theorem zip_fst {α β : Type} : ∀ {l : List α} {r : List β}, l.length = r.length → (l.zip r).map (·.1) = l
  | [], [], _ => rfl
  | a :: l, b :: r, h => by simp at h; simp [zip_fst h]
theorem zip_snd {α β : Type} : ∀ {l : List α} {r : List β}, l.length = r.length → (l.zip r).map (·.2) = r
  | [], [], _ => rfl
  | a :: l, b :: r, h => by simp at h; simp [zip_snd h]
theorem dp_len {K : PySem.W.Frag} {H : Hp} : ∀ {vs : List V} {ps : List PyData}, DpAll K H vs ps → vs.length = ps.length
  | _, _, .nil => rfl
  | _, _, .cons _ t => congrArg Nat.succ (dp_len t)
/-- a dict's text -/
def dicP (kvs : List (Key × D)) (ps : List PyData) : PyData := .dict ((kvs.map fun kv => keyP kv.1).zip ps)
theorem call_reprDic (hg : X.A.guards = some []) (hu : X.A.units + 200 < cLine) : CallR X (.builtin "repr") (fun xs H Q => ∃ (a : Addr) (kvs : List (Key × V)) (ps : List PyData), xs = [.ref a] ∧ H a = some (.dK kvs) ∧ DpAll X.K H (kvs.map (·.2)) ps ∧ tupOnlys ps = true ∧
    (PyData.dict ((kvs.map fun kv => keyP kv.1).zip ps)).showable = true ∧ (PyData.dict ((kvs.map fun kv => keyP kv.1).zip ps)).depth ≤ 60 ∧ (PyData.dict ((kvs.map fun kv => keyP kv.1).zip ps)).shown.length ≤ sizeLine ∧ Q (.str (PyData.dict ((kvs.map fun kv => keyP kv.1).zip ps)).shown) H) := by
  intro pins s σ H xs us Q I r h
  obtain ⟨a, kvs, ps, rfl, e, hd, h0, h1, h3, h4, q⟩ := h
  rw [Vals.ref1 r]
  obtain ⟨_, low, vs, kv, o, es, ep, ho, hx, hdat, _, hp, _⟩ := dk_of I.hok e
  have lk : (kvs.map fun kv => keyP kv.1).length = ps.length := by
    have := dp_len hd
    simpa using this
  obtain ⟨bs, rv⟩ := Dp.readsAll I ps _ _ hd (kv_vals kv hp)
  have eb := noAddrs rv h0
  subst eb
  have rd : Reads s.heap (.ref a) (.dict ((kvs.map fun kv => keyP kv.1).zip ps)) (a :: [] ++ []) := Reads.dict ho hx.1 hdat (by rw [zip_fst lk]; exact kv_keys kv hp) (by rw [zip_snd lk]; exact rv)
  refine repr_of_reads' rd h1 (fun _ => ?_) hg (by omega) (fun b o e => e) (fun h' u tk k => ?_) h4
  · have : a ≠ sysModules := by simpa using low
    simp; exact fun z => this z.symm
  · exact ⟨.str _, H, I.kept (t' := tk) k, ⟨u, rfl⟩, q⟩
inductive ReprDA : AC
  | mk {x : D} {kvs : List (Key × D)} {ps : List PyData} {M : Mem} {P : AK} : DicR M x kvs → Paired IsPy (kvs.map (·.2)) ps → tupOnlys ps = true → (dicP kvs ps).showable = true → (dicP kvs ps).depth ≤ 60 → (dicP kvs ps).shown.length ≤ sizeLine → P (.str (dicP kvs ps).shown) M → ReprDA [x] M P
theorem okc_reprD (hg : X.A.guards = some []) (hu : X.A.units + 200 < cLine) : OkC X (.builtin "repr") ReprDA := fun F ds vs M P H Q m dv h hP => by
  cases h with
  | @mk x kvs ps _ _ hd hp h0 h1 h3 h4 q =>
    cases dv with
    | cons d1 d2 =>
      cases d2
      obtain ⟨a, ws, rfl, e1, e2⟩ := hd.inv m d1
      have ek : (ws.map fun kv => keyP kv.1) = kvs.map fun kv => keyP kv.1 := by
        have := congrArg (List.map keyP) e2.keys
        simpa [List.map_map, Function.comp_def] using this
      unfold dicP at h1 h3 h4 q
      rw [← ek] at h1 h3 h4 q
      exact ⟨_, call_reprDic hg hu, a, ws, ps, rfl, e1, IsPy.dps hp e2.vals, h0, h1, h3, h4, hP _ _ M H (Step.refl H M) m (.str _) q⟩
end
end Ab
set_option maxRecDepth 100000
set_option maxHeartbeats 4000000
/-! Ab31: tables of the module (text keys, ints); tuple(range(..)); a dict display to be changed. -/
namespace Ab
open PySem PySem.Spec L2 PyProof.Rows
/-- a table of the module: every key that is in it, no other -/
def Tab (K : PySem.W.Frag) (w : World) (d : Addr) (kvs : List (Str × Int)) : Prop :=
  (∃ es n, KDict K w d es n) ∧ ∀ z : Str, ∃ r : Option Value, PySem.W.nsIn K d z = some r ∧ (match kvs.lookup z with
    | some i => ∃ t, r = some (.int i t)
    | none => r = none)
theorem Tab.ex {K : PySem.W.Frag} {w : World} {d : Addr} {kvs : List (Str × Int)} (h : Tab K w d kvs) (z : Str) : ∃ r : Option Value, PySem.W.nsIn K d z = some r ∧ r.isSome = (kvs.lookup z).isSome ∧ RelV (((kvs.lookup z).map V.int).getD .non) (r.getD .none) ∧ ∀ i, kvs.lookup z = some i → ∃ t, r = some (.int i t) := by
  obtain ⟨r, e, h⟩ := h.2 z
  refine ⟨r, e, ?_⟩
  cases q : kvs.lookup z with
  | none =>
    rw [q] at h
    subst h
    exact ⟨rfl, rfl, fun i e => by cases e⟩
  | some i =>
    rw [q] at h
    obtain ⟨t, rfl⟩ := h
    exact ⟨rfl, ⟨t, rfl⟩, fun j e => by cases e; exact ⟨t, rfl⟩⟩
theorem nsIn_none {K : PySem.W.Frag} {d : Addr} {es : Array DictEntry} {n : Nat} {P : Params} {ks : List Str} {z : Str} (hl : K.lookup d = some ⟨.type "dict", none, .dict es n, #[]⟩) (hk : es.toList.map He.keyOf = He.keysIn P ks) (hz : z ∉ ks) : PySem.W.nsIn K d z = some none := by
  unfold PySem.W.nsIn
  rw [hl]
  dsimp only
  have key : ∀ (l : List DictEntry) (ks : List Str), l.map He.keyOf = He.keysIn P ks → z ∉ ks → l.find? (·.key.isStr z) = none ∧ l.any (·.refKey) = false := by
    intro l
    induction l with
    | nil => intro ks _ _; exact ⟨rfl, rfl⟩
    | cons e r ih =>
      intro ks h hz
      cases ks with
      | nil => cases h
      | cons k ks =>
        have h1 : He.keyOf e :: r.map He.keyOf = some (k, PyData.keyHash P k) :: He.keysIn P ks := h
        injection h1 with h2 h3
        obtain ⟨g1, g2⟩ := ih ks h3 (fun y => hz (List.mem_cons_of_mem _ y))
        unfold He.keyOf at h2
        split at h2
        · rename_i x t q
          obtain ⟨h5, h6⟩ := Prod.mk.inj (Option.some.inj h2)
          subst h5
          have ne : ¬ x = z := fun y => hz (by rw [← y]; exact List.mem_cons_self)
          refine ⟨?_, ?_⟩
          · rw [List.find?_cons]
            have : e.key.isStr z = false := by
              rw [q]
              simp [Value.isStr, ne]
            rw [this]; exact g1
          · rw [List.any_cons, g2, Bool.or_false]
            simp [DictEntry.refKey, q]
        · cases h2
  obtain ⟨g1, g2⟩ := key _ _ hk hz
  rw [g1]
  dsimp only
  rw [g2]
  rfl
theorem tab_of {K : PySem.W.Frag} {w : World} {a : Addr} {kvs : List (Str × Int)} (h : He.dicW K a = some (He.keysIn w.params (kvs.map (·.1)))) (hv : He.valsB K a (kvs.map fun q => (q.1, He.Dv.int q.2)) = true) : Tab K w a kvs := by
  refine ⟨He.dicW_ok h, fun z => ?_⟩
  cases q : kvs.lookup z with
  | some i =>
    have hm : (z, i) ∈ kvs := by
      clear h hv
      induction kvs with
      | nil => cases q
      | cons p r ih =>
        obtain ⟨x, j⟩ := p
        simp only [List.lookup_cons] at q
        cases e : (z == x) with
        | true =>
          rw [e] at q
          cases q
          rw [eq_of_beq e]; exact List.mem_cons_self
        | false =>
          rw [e] at q
          exact List.mem_cons_of_mem _ (ih q)
    obtain ⟨u, e1, e2⟩ := He.valsB_ok hv (q := (z, He.Dv.int i)) (List.mem_map.mpr ⟨(z, i), hm, rfl⟩)
    obtain ⟨t, rfl⟩ := e2
    exact ⟨_, e1, t, rfl⟩
  | none =>
    have hn : z ∉ kvs.map (·.1) := by
      clear h hv
      induction kvs with
      | nil => simp
      | cons p r ih =>
        obtain ⟨x, j⟩ := p
        simp only [List.lookup_cons] at q
        cases e : (z == x) with
        | true =>
          rw [e] at q; cases q
        | false =>
          rw [e] at q
          have ne : z ≠ x := by simpa using e
          have := ih q
          simp only [List.map_cons, List.mem_cons, not_or]
          exact ⟨ne, this⟩
    refine ⟨none, ?_, rfl⟩
    obtain ⟨es, n, hl, hk⟩ : ∃ es n, K.lookup a = some ⟨.type "dict", none, .dict es n, #[]⟩ ∧ es.toList.map He.keyOf = He.keysIn w.params (kvs.map (·.1)) := by
      obtain ⟨es, n, D⟩ := He.dicW_ok h
      refine ⟨es, n, D.at_, ?_⟩
      unfold He.dicW at h
      rw [D.at_] at h
      dsimp only at h
      split at h
      · exact Option.some.inj h
      · cases h
    exact nsIn_none hl hk hn
section
variable {X : Cx} {C : Addr} {e o : Expr} {te to : AE} {pos p apos cpos : Pos}
/-- word in table -/
def InTabA (d : Addr) (kvs : List (Str × Int)) : A2 := fun x y M P => ∃ z : Str, x = .str z ∧ y = .ref d ∧ P (.bl (kvs.lookup z).isSome) M
def NotInTabA (d : Addr) (kvs : List (Str × Int)) : A2 := fun x y M P => ∃ z : Str, x = .str z ∧ y = .ref d ∧ P (.bl (!(kvs.lookup z).isSome)) M
theorem ok_inTab {d : Addr} {kvs : List (Str × Int)} (T : Tab X.K X.w d kvs) : OkA2 X (compareOp .In) (InTabA d kvs) := fun F x y v w M P H Q m dv dw h hP => by
  obtain ⟨z, rfl, rfl, q⟩ := h
  obtain ⟨⟨es, n, D⟩, _⟩ := id T
  obtain ⟨r, e, e2, _, _⟩ := T.ex z
  cases dv; cases dw
  exact ⟨_, op_in_kd D, z, r, rfl, rfl, e, by rw [e2]; exact hP _ _ M H (Step.refl H M) m (.bl _) q⟩
theorem ok_notinTab {d : Addr} {kvs : List (Str × Int)} (T : Tab X.K X.w d kvs) : OkA2 X (compareOp .NotIn) (NotInTabA d kvs) := fun F x y v w M P H Q m dv dw h hP => by
  obtain ⟨z, rfl, rfl, q⟩ := h
  obtain ⟨⟨es, n, D⟩, _⟩ := id T
  obtain ⟨r, e, e2, _, _⟩ := T.ex z
  cases dv; cases dw
  exact ⟨_, op_notIn_kd D, z, r, rfl, rfl, e, by rw [e2]; exact hP _ _ M H (Step.refl H M) m (.bl _) q⟩
/-- table[word], there -/
def IxTabA (d : Addr) (kvs : List (Str × Int)) : A2 := fun x y M P => ∃ (z : Str) (i : Int), x = .ref d ∧ y = .str z ∧ kvs.lookup z = some i ∧ P (.int i) M
theorem de_ixTab {d : Addr} {kvs : List (Str × Int)} (T : Tab X.K X.w d kvs) (ho : DenE X o to) (he : DenE X e te) (hs : PlainIx e := by exact fun _ _ => rfl) : DenE X (.Subscript o e pos) (aBin (IxTabA d kvs) to te) :=
  ⟨fun F ρ M P EX W σ H Q S tk h hP hX => (pe_ix ix_kdict (pe_ew (X := X)) (pe_ew (X := X)) hs).ew (ho.run F ρ M _ EX W σ H _ S tk h (fun v x M1 H1 s1 m1 dv h1 =>
    he.run F ρ M1 _ EX W σ H1 _ (S.step s1 m1) tk h1 (fun w y M2 H2 s2 m2 dw h2 => by
      obtain ⟨z, i, rfl, rfl, l, q⟩ := h2
      obtain ⟨⟨es, n, D⟩, _⟩ := id T
      obtain ⟨r, e1, _, _, e5⟩ := T.ex z
      obtain ⟨t, rfl⟩ := e5 i l
      cases dv; cases dw
      exact ⟨d, z, .int i, rfl, rfl, ⟨es, n, _, D.at_, D.lit, e1, t, rfl⟩, hP _ _ M2 H2 (s1.trans s2) m2 (.int i) q⟩) (hX.step s1)) hX)⟩
/-- table.get(word) -/
def aTabGet (d : Addr) (kvs : List (Str × Int)) (to te : AE) : AE := fun ρ M P EX => to ρ M (fun x M1 => x = .ref d ∧ te ρ M1 (fun y M2 => ∃ z : Str, y = .str z ∧ P (((kvs.lookup z).map D.int).getD .non) M2) EX) EX
theorem de_tabGet {d : Addr} {kvs : List (Str × Int)} (T : Tab X.K X.w d kvs) (ho : DenE X o to) (he : DenE X e te) (m : M1 X o "get" apos e cpos := by constructor <;> rfl) : DenE X (.Call (.Attribute o "get" apos) [e] [] cpos) (aTabGet d kvs to te) :=
  ⟨fun F ρ M P EX W σ H Q S tk h hP hX => fun pins s I => by
    obtain ⟨⟨es, n, Dk⟩, _⟩ := id T
    refine wpAny_Call_method m.base m.few m.line PySem.F.plainAttrs_dict PySem.F.slot_dict_get PySem.F.type_dict_get (thn (ho.run F ρ M _ EX W σ H (fun v H1 => v = .ref d ∧ ∃ M1, Step H M H1 M1 ∧ MSt X.K H1 F M1 ∧ te ρ M1 (fun y M2 => ∃ z : Str, y = .str z ∧ P (((kvs.lookup z).map D.int).getD .non) M2) EX) S tk h (fun v x M1 H1 s1 m1 dv q => by
      obtain ⟨rfl, q⟩ := q
      cases dv
      exact ⟨rfl, M1, s1, m1, q⟩) hX pins s I) fun u s1 ⟨x, H1, I1, rx, ex, M1, st1, m1, q1⟩ => ?_)
    subst ex
    obtain rfl : u = Value.ref d := rx
    have mp := PySem.W.mapOf_K (prog := X.prog) (w := X.w) I1.kIn Dk.at_ Dk.lit
    refine ⟨mp.typeIs, mp.noDict, ?_⟩
    rw [m.trees]
    refine Calls.callWith_builtin rfl (Calls.evalArgs_plain (Calls.spliced_cons (thn (he.run F ρ M1 _ EX W σ H1 (fun w H2 => ∃ z M2, w = .str z ∧ Step H1 M1 H2 M2 ∧ MSt X.K H2 F M2 ∧ P (((kvs.lookup z).map D.int).getD .non) M2) (S.step st1 m1) tk q1 (fun w y M2 H2 s2 m2 dw q => by
      obtain ⟨z, rfl, q⟩ := q
      cases dw
      exact ⟨z, M2, rfl, s2, m2, q⟩) (hX.step st1) pins s1 I1) fun iv s2 ⟨y, H2, I2, ry, z, M2, ey, st2, m2, q2⟩ => Calls.spliced_nil ?_)))
    subst ey
    obtain ⟨t, rfl⟩ := ry
    obtain ⟨r, e1, _, e4, _⟩ := T.ex z
    have mp2 := PySem.W.mapOf_K (prog := X.prog) (w := X.w) I2.kIn Dk.at_ Dk.lit
    refine call_meetsIn PySem.F.slot_dict_get mp2.typeIs PySem.F.entry_dict_get (PySem.F.args_dict_get_2 _ _) (meets_dict_get (strKind X.prog X.w) d (PySem.strKind_is X.prog X.w z t) Dk.low) ⟨_, mp2, ?_⟩
    rw [PySem.W.find_K Dk.at_ e1]
    refine ⟨((kvs.lookup z).map V.int).getD .non, H2, I2.tok _, e4, hP _ _ M2 H2 (st1.trans st2) m2 ?_ q2⟩
    cases kvs.lookup z with
    | none => exact .non
    | some i => exact .int i⟩
/-- tuple(range(a, b)) -/
def aTupRg (t : AA) : AE := fun ρ M P EX => t ρ M (fun ds M1 => ∃ i j : Int, ds = [.int i, .int j] ∧ (-(2 ^ 62) ≤ i ∧ i < 2 ^ 62 ∧ -(2 ^ 62) ≤ j ∧ j < 2 ^ 62 ∧ (j - i).toNat ≤ 100000) ∧ P (.tup (rngD i (j - i).toNat)) M1) EX
theorem de_tupRg {a b : Expr} {ta tb : AE} {rp rpos : Pos} (hc : X.calm = true) (hmt : X.mg "tuple" = none) (hmr : X.mg "range" = none) (ha : DenE X a ta) (hb : DenE X b tb) (hgt : Gl X "tuple" := by rfl) (hgr : Gl X "range" := by rfl)
    (na : starEach [a, b] X.env = (false, eval a X.env) :: starEach [b] X.env := by rfl) (nb : starEach [b] X.env = (false, eval b X.env) :: starEach [] X.env := by rfl) (hp : (backTo rpos (starEach [b] X.env)).any (·.1) = false := by rfl)
    (nr : starEach [.Call (.Name "range" rp) [a, b] [] rpos] X.env = (false, eval (.Call (.Name "range" rp) [a, b] [] rpos) X.env) :: starEach [] X.env := by rfl) :
    DenE X (.Call (.Name "tuple" p) [.Call (.Name "range" rp) [a, b] [] rpos] [] pos) (aTupRg (aCons ta (aCons tb aNil))) :=
  ⟨fun F ρ M P EX W σ H Q S tk h hP hX => (pe_tupRg hc hgt hmt (prg_2 hgr hmr (pe_ew (X := X)) (pe_ew (X := X)) na nb hp) nr).ew
    (ha.run F ρ M _ EX W σ H _ S tk h (fun v x M1 H1 s1 m1 dv h1 => hb.run F ρ M1 _ EX W σ H1 _ (S.step s1 m1) tk h1 (fun w y M2 H2 s2 m2 dw h2 => by
      obtain ⟨i, j, e1, ⟨b1, b2, b3, b4, b5⟩, q⟩ := h2
      injection e1 with e1 e2
      injection e2 with e2 e3
      subst e1; subst e2
      have dv2 := dv.step s2
      cases dv2; cases dw
      refine ⟨i, j, rfl, rfl, ⟨b1, b2, b3, b4, Nat.le_trans b5 (by decide)⟩, fun r hr => ?_⟩
      have dd : DVs X.K H2 (um F M2) (rgV i j) (rngD i (j - i).toNat) := by
        unfold rgV rngD
        generalize List.range (j - i).toNat = l
        induction l with
        | nil => exact .nil
        | cons c l ih => exact .cons (.int _) ih
      obtain ⟨s3, m3, d3⟩ := new_tup m2 hr dd
      exact hP _ _ M2 _ ((s1.trans s2).trans s3) m3 d3 q) (hX.step s1)) hX)⟩
end
end Ab
set_option maxRecDepth 100000
set_option maxHeartbeats 4000000
/-! Ab32: a dict display to be changed. -/
namespace Ab
open PySem PySem.Spec L2 PyProof.Rows
section
variable {K : PySem.W.Frag} {H : Hp} {F : List Addr} {M : Mem} {p : Addr} {o : HO}
theorem res_go (hp : H p = none) : FrGo H F (p :: F) := fun b hb => (List.mem_cons.mp hb).elim (fun y => Or.inr (by rw [y]; exact hp)) Or.inl
theorem mst_res (m : MSt K H F M) (hp : H p = none) : MSt K (upd H p o) (p :: F) M := by
  have nD := m.notin hp
  have st0 : Step H M (upd H p o) M := step_new hp
  refine ⟨m.nd, fun q hq => ?_, fun b hb => ?_⟩
  · obtain ⟨u, e⟩ := (m.ok q hq).there
    have z := m.ok q hq
    have ne : upd H p o q.1 = H q.1 := upd_ne (ne_of_none e hp)
    obtain ⟨q1, q2⟩ := q
    cases q2 with
    | lst ds => obtain ⟨a, b1, b2⟩ := z; exact ⟨a, ne.trans b1, b2.step2 st0 (res_go hp)⟩
    | ins C fs => obtain ⟨a, b, b1, b2⟩ := z; exact ⟨a, b, ne.trans b1, b2.step2 st0 (res_go hp)⟩
    | dK kvs => obtain ⟨a, b1, b2⟩ := z; exact ⟨a, ne.trans b1, b2.step2 st0 (res_go hp)⟩
    | lk o ws kvs => obtain ⟨b1, b2⟩ := z; exact ⟨ne.trans b1, b2.step2 st0 (res_go hp)⟩
    | any o => exact ne.trans z
  · rcases List.mem_cons.mp hb with y | y
    · rw [y]; exact ⟨fun z => nD (List.mem_append_left _ z), _, upd_same⟩
    · obtain ⟨e1, u, e2⟩ := m.fr b y
      exact ⟨e1, u, by rw [upd_ne (ne_of_none e2 hp)]; exact e2⟩
theorem sl_res {σ : L2.St} {ρ : Rho} (S : SlOk K H (um F M) σ ρ) (hp : H p = none) : SlOk K (upd H p o) (um (p :: F) M) σ ρ :=
  ⟨S.len, fun i d e => by
    obtain ⟨v, e1, e2⟩ := S.at_ i d e
    exact ⟨v, e1, e2.step2 (step_new hp) (res_go hp)⟩⟩
theorem um_res {M' : Mem} {mo : MO} : ∀ a ∈ um F (M' ++ [(p, mo)]), a ∈ um (p :: F) M' := fun a ha => by
  simp only [um, dom_app, List.mem_append, List.mem_cons, List.mem_singleton, List.not_mem_nil, or_false] at ha ⊢
  rcases ha with (h | h) | h
  · exact Or.inl h
  · exact Or.inr (Or.inl h)
  · exact Or.inr (Or.inr h)
/-- what was reserved becomes memory -/
theorem res_in {H2 : Hp} {M' : Mem} {o2 : HO} {mo : MO} (hp : H p = none) (fr : ∀ b ∈ F, ∃ u, H b = some u) (s : Step (upd H p o) M H2 M') (m : MSt K H2 (p :: F) M') (ok : MoOk K (upd H2 p o2) (um F (M' ++ [(p, mo)])) p mo) :
    Step H M (upd H2 p o2) (M' ++ [(p, mo)]) ∧ MSt K (upd H2 p o2) F (M' ++ [(p, mo)]) := by
  have np : p ∉ dom M' := (m.fr p List.mem_cons_self).1
  refine ⟨⟨fun b u hb e => ?_, fun b hb => ?_⟩, ⟨?_, fun q hq => ?_, fun b hb => ?_⟩⟩
  · have ne : b ≠ p := ne_of_none e hp
    rw [upd_ne ne]
    exact s.keep b u hb (by rw [upd_ne ne]; exact e)
  · rw [dom_app, List.mem_append, List.mem_singleton] at hb
    rcases hb with h | h
    · rcases s.new b h with z | z
      · exact Or.inl z
      · by_cases e : b = p
        · rw [e]; exact Or.inr hp
        · rw [upd_ne e] at z; exact Or.inr z
    · rw [h]; exact Or.inr hp
  · rw [dom_app]
    exact List.nodup_append.mpr ⟨m.nd, by simp, fun a ha b hb e => by
      rw [List.mem_singleton] at hb
      rw [e, hb] at ha
      exact np ha⟩
  · rcases List.mem_append.mp hq with h | h
    · have ne : q.1 ≠ p := fun z => np (by rw [← z]; exact List.mem_map_of_mem (f := (·.1)) h)
      exact ((m.ok q h).frz (D0 := p) (List.mem_append_right _ List.mem_cons_self) ne).anti um_res
    · rw [List.mem_singleton] at h
      rw [h]; exact ok
  · obtain ⟨u, e⟩ := fr b hb
    have ne : b ≠ p := ne_of_none e hp
    obtain ⟨h1, u2, h2⟩ := m.fr b (List.mem_cons_of_mem _ hb)
    refine ⟨?_, u2, by rw [upd_ne ne]; exact h2⟩
    rw [dom_app, List.mem_append, List.mem_singleton]
    exact fun z => z.elim h1 ne
end
def pairsK (ks : List Str) (vs : List V) : List (V × V) := (ks.zip vs).map fun q => (V.str q.1, q.2)
def mkKD {α : Type} (ks : List Str) (ds : List α) : List (Key × α) := (ks.zip ds).map fun q => (Sum.inr q.1, q.2)
structure DenP (X : Cx) (keys : List (Option Expr)) (values : List Expr) (ks : List Str) (t : AA) : Prop where
  ex : ∃ trs : List (TE × TE), (∀ pos, PPs X pos keys values trs) ∧ ∀ (F : List Addr) (ρ : Rho) (M : Mem) (P : List D → Mem → Prop) (EX : XKA) (W : WX) (σ : L2.St) (H : Hp) (Q : List (V × V) → Hp → Prop), Sta X H F M σ ρ → Takes X W → t ρ M P EX →
    (∀ vs ds M' H', Step H M H' M' → MSt X.K H' F M' → DVs X.K H' (um F M') vs ds → vs.length = ks.length → P ds M' → Q (pairsK ks vs) H') → LX X H F M EX (fun cls d H' => W cls d σ H') → tPairs trs σ H Q
section
variable {X : Cx}
theorem dp_nil : DenP X [] [] [] aNil := ⟨[], fun _ => pps_nil, fun F ρ M P EX W σ H Q S tk h hP hX => hP [] [] M H (Step.refl H M) S.ms .nil rfl h⟩
theorem dp_cons {z : Str} {j : Nat} {p : Pos} {v : Expr} {keys : List (Option Expr)} {values : List Expr} {ks : List Str} {tv : AE} {t : AA} (hv : DenE X v tv) (hr : DenP X keys values ks t) : DenP X (some (.Constant (.str z) j p) :: keys) (v :: values) (z :: ks) (aCons tv t) := by
  obtain ⟨trs, h1, h2⟩ := hr.ex
  refine ⟨(tC (.str z), EW X v) :: trs, fun pos => pps_cons pe_str (pe_ew (X := X)) (h1 pos), fun F ρ M P EX W σ H Q S tk h hP hX => ?_⟩
  refine hv.run F ρ M _ EX W σ H _ S tk h (fun u x M1 H1 s1 m1 du q => ?_) hX
  refine h2 F ρ M1 _ EX W σ H1 _ (S.step s1 m1) tk q (fun vs ds M' H' s m dv hl p => ?_) (hX.step s1)
  exact hP (u :: vs) (x :: ds) M' H' (s1.trans s) m (.cons (du.step s) dv) (by simp [hl]) p
/-- {"..": e, ..}, to be changed -/
def aDispM (ks : List Str) (t : AA) : AE := fun ρ M P EX => t ρ M (fun ds M1 => ∀ q, q ∉ dom M1 → P (.ref q) (M1 ++ [(q, .dK (mkKD ks ds))])) EX
theorem putK_new {kvs : List (Key × V)} {k : Key} {v : V} (h : k ∉ kvs.map (·.1)) : putK kvs k v = kvs ++ [(k, v)] := by
  unfold putK
  rw [if_neg]
  intro z
  obtain ⟨q, h1, h2⟩ := List.any_eq_true.mp z
  exact h (List.mem_map.mpr ⟨q, h1, of_decide_eq_true h2⟩)
theorem mergeK_nd : ∀ (more kvs : List (Key × V)), ((kvs ++ more).map (·.1)).Nodup → mergeK kvs more = kvs ++ more
  | [], kvs, _ => by simp [mergeK]
  | q :: r, kvs, h => by
    have e : mergeK kvs (q :: r) = mergeK (putK kvs q.1 q.2) r := rfl
    have hn : q.1 ∉ kvs.map (·.1) := fun z => by
      rw [List.map_append] at h
      exact (List.nodup_append.mp h).2.2 _ z _ (by simp) rfl
    rw [e, putK_new hn, mergeK_nd r]
    · simp
    · simpa using h
theorem mkKD_keys : ∀ {ks : List Str} {vs : List V}, vs.length = ks.length → (mkKD ks vs).map (·.1) = ks.map Sum.inr
  | [], [], _ => rfl
  | k :: ks, v :: vs, h => by
    have := mkKD_keys (ks := ks) (vs := vs) (by simpa using h)
    simp [mkKD] at this ⊢
    exact this
theorem mkKD_dks {K : PySem.W.Frag} {H : Hp} {U : List Addr} : ∀ {ks : List Str} {vs : List V} {ds : List D}, DVs K H U vs ds → DKs K H U (mkKD ks vs) (mkKD ks ds)
  | [], _, _, _ => .nil
  | k :: ks, _, _, .nil => .nil
  | k :: ks, _, _, .cons a t => .cons a (mkKD_dks t)
theorem de_dispM {keys : List (Option Expr)} {values : List Expr} {ks : List Str} {t : AA} {pos : Pos} (h : DenP X keys values ks t) (nd : ks.Nodup := by decide) (hall : keys.all (·.isSome) = true := by rfl) (hl : keys.length = values.length := by rfl) (h0 : keys ≠ [] := by simp) (h15 : keys.length ≤ 15 := by simp) (hk : ks.length ≤ 15 := by simp) :
    DenE X (.Dict keys values pos) (aDispM ks t) :=
  ⟨fun F ρ M P EX W σ H Q S tk q hP hX => by
    obtain ⟨trs, h1, h2⟩ := h.ex
    refine (pe_disp (h1 pos) hall hl h0 h15).ew fun p hp => ?_
    refine h2 (p :: F) ρ M _ EX W σ _ _ ⟨sl_res S.sl hp, mst_res S.ms hp⟩ tk q (fun vs ds M' H2 s m dv hlen pd => ?_) (fun x M' cls d H' s m xv ex => ?_)
    · have e2 : H2 p = some (.dK []) := s.keep p _ (fun z => S.ms.notin hp (List.mem_append_left _ z)) upd_same
      have np : p ∉ dom M' := (m.fr p List.mem_cons_self).1
      refine ⟨e2, mkKD ks vs, ?_, ?_, ?_⟩
      · simp [pairsK, mkKD, kV]
      · simp [mkKD]; omega
      · have em : mergeK [] (mkKD ks vs) = mkKD ks vs := by
          rw [mergeK_nd _ [] (by rw [List.nil_append, mkKD_keys hlen]; exact List.Pairwise.map (f := Sum.inr) (S := fun a b => a ≠ b) (R := fun a b => a ≠ b) (fun a b e z => e (Sum.inr.inj z)) nd)]
          rfl
        rw [em]
        have ok : MoOk X.K (upd H2 p (.dK (mkKD ks vs))) (um F (M' ++ [(p, .dK (mkKD ks ds))])) p (.dK (mkKD ks ds)) :=
          ⟨_, upd_same, ((mkKD_dks dv).frz (D0 := p) (List.mem_append_right _ List.mem_cons_self)).anti um_res⟩
        obtain ⟨s3, m3⟩ := res_in hp (fun b hb => (S.ms.fr b hb).2) s m ok
        exact hP _ _ _ _ s3 m3 (.ref p) (pd p np)
    · have s3 : Step H M H' M' := ⟨fun b o hb e => s.keep b o hb (by rw [upd_ne (ne_of_none e hp)]; exact e), fun b hb => (s.new b hb).imp _root_.id fun z => by
        by_cases e : b = p
        · rw [e]; exact hp
        · rw [upd_ne e] at z; exact z⟩
      exact hX x M' cls d H' s3 (m.less fun b hb => List.mem_cons_of_mem _ hb) (xv.anti fun a ha => (List.mem_append.mp ha).elim (fun z => List.mem_append_left _ z) fun z => List.mem_append_right _ (List.mem_cons_of_mem _ z)) ex⟩
end
end Ab
set_option maxRecDepth 100000
set_option maxHeartbeats 4000000
/-! Ab33: repr of a truth, of an int; a list against []; an int in a row of ints. -/
namespace Ab
open PySem PySem.Spec L2 PyProof.Rows
section
variable {X : Cx}
def ReprIA : AC := fun ds M P => ∃ i : Int, ds = [.int i] ∧ i.natAbs.log2 < 1920 ∧ P (.str (toString i)) M
theorem okc_reprI : OkC X (.builtin "repr") ReprIA := fun F ds vs M P H Q m dv h hP => by
  obtain ⟨i, rfl, hz, q⟩ := h
  cases dv with
  | cons d1 d2 =>
    cases d2
    cases d1
    exact ⟨_, SkE.call_repr_int, i, rfl, hz, hP _ _ M H (Step.refl H M) m (.str _) q⟩
def ReprBA : AC := fun ds M P => ∃ b : Bool, ds = [.bl b] ∧ P (.str (if b then "True" else "False")) M
theorem call_repr_bl : CallR X (.builtin "repr") (fun xs H Q => ∃ b : Bool, xs = [.bl b] ∧ Q (.str (if b then "True" else "False")) H) := by
  intro pins s σ H xs us Q I r h
  obtain ⟨b, rfl, q⟩ := h
  cases r with
  | cons r1 r2 =>
    cases r2
    cases r1
    exact PySem.P.repr_of_bool ⟨.str _, H, I.tok _, ⟨_, rfl⟩, q⟩
theorem okc_reprB : OkC X (.builtin "repr") ReprBA := fun F ds vs M P H Q m dv h hP => by
  obtain ⟨b, rfl, q⟩ := h
  cases dv with
  | cons d1 d2 =>
    cases d2
    cases d1
    exact ⟨_, call_repr_bl, b, rfl, hP _ _ M H (Step.refl H M) m (.str _) q⟩
/-- a list against [] -/
def NeNilA : A2 := fun x y M P => ∃ l, LstR M x l ∧ y = .lst [] ∧ P (.bl (!l.isEmpty)) M
theorem op_neNil (hu : X.A.units < cLine) : OpR X (compareOp .NotEq) (fun x y H Q => ∃ a b xs, x = .ref a ∧ y = .ref b ∧ SqL X.K H a xs ∧ SqL X.K H b [] ∧ Q (.bl (!xs.isEmpty)) H) := by
  intro pins s σ H x y v u Q I rx ry h
  obtain ⟨a, b, xs, rfl, rfl, ha, hb, q⟩ := h
  cases rx
  cases ry
  obtain ⟨us, r1, p1, _⟩ := I.list ha
  obtain ⟨ws, r2, p2, _⟩ := I.list hb
  cases r2
  cases r1 with
  | nil =>
    exact SeqAt.RcNeAt.lists (e := fun _ => true) p1.isList p2.isList rfl hu (fun j h1 h2 => absurd h1 (by simp)) X.prog X.w X.xe _ ⟨.bl _, H, I, rfl, q⟩
  | cons r1 t1 => exact SeqAt.RcNeAt.lists_lengths p1.isList p2.isList (by simp) hu X.prog X.w X.xe _ ⟨.bl _, H, I, rfl, q⟩
theorem ok_neNil (hu : X.A.units < cLine) : OkA2 X (compareOp .NotEq) NeNilA := fun F x y v w M P H Q m dv dw h hP => by
  obtain ⟨l, hl, rfl, q⟩ := h
  obtain ⟨a, xs, rfl, h1, h2⟩ := hl.inv m dv
  cases dw with
  | @lst b ys _ e1 _ e2 =>
    cases e2
    refine ⟨_, op_neNil hu, a, b, xs, rfl, rfl, h1, SqL.of e1, ?_⟩
    have e : xs.isEmpty = l.isEmpty := by
      cases h2 <;> rfl
    rw [e]
    exact hP _ _ M H (Step.refl H M) m (.bl _) q
theorem in_ints {M : Mem} {x : D} {L : List Int} {n : Int} {P : AK} (hs : SeqR M x (L.map D.int)) (q : P (.bl (decide (n ∈ L))) M) : InA (.int n) x M P := by
  refine InA.seq (vs := L.map V.int) (vx := .int n) hs rfl ?_ rfl ?_
  · clear hs q
    induction L with
    | nil => exact .nil
    | cons a r ih => exact .cons ⟨rfl, rfl⟩ ih
  · have e : inV (.int n) (L.map V.int) = decide (n ∈ L) := by
      clear hs q
      induction L with
      | nil => rfl
      | cons a r ih =>
        simp only [inV, List.map_cons, List.any_cons] at ih ⊢
        rw [ih]
        by_cases h : n = a
        · subst h; simp [eqV]
        · have h' : ¬ a = n := fun z => h z.symm
          simp [eqV, h, h']
    rw [e]; exact q
end
end Ab
set_option maxRecDepth 100000
set_option maxHeartbeats 4000000
/-! Ab34: defs told of the places where no repr is under way. -/
namespace Ab
open PySem PySem.Spec L2 PyProof.Rows
def FnG (P : Program) (w : World) (K : PySem.W.Frag) (mg : Str → Option Value) (base : Heap) (CX : CXT) (k : Nat) (f : Addr) (fd : FuncData) (ps : List Str) (sp : Sp) : Prop :=
  ∀ A : Around, A.guards = some [] → FnAt P w K mg base CX k A f fd ps sp
structure Fn1G (P : Program) (w : World) (K : PySem.W.Frag) (mg : Str → Option Value) (base : Heap) (x : Str) (k : Nat) (ks : List Str) (n m : Nat) (g : List D → List D → List D) (S : ASp) : Prop where
  ex : ∃ (f : Addr) (fd : FuncData) (ps : List Str), FnG P w K mg base (L2.CX P w) k f fd ps (spOf K S) ∧ mg x = some (.ref f) ∧ PySem.W.keepIn K (.ref f) = true ∧ KB K fd ps ks n m g
section
variable {X : Cx} {k : Nat} {f : Addr} {fd : FuncData} {ps : List Str} {S : ASp} {W : WX} {x : Str} {p pos : Pos} {e : Expr} {es : List Expr} {t : AA} {n : Nat} {g : List D → List D → List D}
theorem run_anyG {sp : Sp} {pins : List (Addr × Obj)} {σ : L2.St} {H : Hp} {s : Shared} {Q : VK} {us bs : List Value} {kw : List (Str × Value)} {vs : List V} (G : FnG X.prog X.w X.K X.mg X.base (L2.CX X.prog X.w) k f fd ps sp) (hgd : X.A.guards = some []) (hr : Room k X.A) (tk : Takes X W) (I : Inv X pins σ H s)
    (hb : BindsTo s fd ⟨us, kw⟩ (ps.zip bs)) (r : Vals vs bs) (h : sp vs H Q (fun cls d H' => W cls d σ H')) : wpAny (model X.prog X.w) X.A (call (.ref f) us kw) (EP X pins σ Q) X.xe s := by
  have run := (G X.A hgd).run X.stack s H ⟨us, kw⟩ bs vs Q _ hr I.env0 hb r h
  refine wpAny_call (codeAny_mono run fun res s' hq => ?_)
  match res, hq with
  | .error e, hq => exact tk e s' (XE.of_call I (fun _ _ _ z => z) hq)
  | .ok (.ret u), hq => exact I.after hq
theorem de_callG (G : FnG X.prog X.w X.K X.mg X.base (L2.CX X.prog X.w) k f fd ps (spOf X.K S)) (hgd : X.A.guards = some []) (hr : Room k X.A) (hm : X.mg x = some (.ref f)) (hk : PySem.W.keepIn X.K (.ref f) = true) (B : KB X.K fd ps [] n 0 g) (ha : DenA X (e :: es) t)
    (hg : Gl X x := by rfl) (hdb : (x == ("__debug__" : Str)) = false := by decide) (he : starEach (e :: es) X.env = (false, eval e X.env) :: starEach es X.env := by rfl) (hpl : (backTo pos (starEach es X.env)).any (·.1) = false := by rfl) :
    DenE X (.Call (.Name x p) (e :: es) [] pos) (aCall S g n t) :=
  ⟨fun F ρ M P EX W σ H Q S' tk h hP hX => fun pins s I => by
    refine wpAny_Call_Name_kw (ld_glob I hg hm ?_ hdb)
    refine PySem.W.callWith_K (h₀ := X.base) I.ok.mod.kin hk ?_ he hpl
    refine thn (ha.run F ρ M _ EX W σ H (fun vs H1 => ∃ ds M1, Step H M H1 M1 ∧ MSt X.K H1 F M1 ∧ DVs X.K H1 (um F M1) vs ds ∧ ds.length = n ∧ CallM S (g ds []) M1 P EX) S' tk h (fun vs ds M1 H1 s1 m1 dv q => ⟨ds, M1, s1, m1, dv, q⟩) hX pos pins s I) ?_
    rintro us s1 ⟨vs, H1, I1, r, ds, M1, st1, m1, dv, hl, q⟩
    refine ⟨I1.kIn, ?_⟩
    obtain ⟨ys, bs, b1, b2, b3⟩ := kb_run B dv (zs := []) (es := []) (ws := []) .nil hl rfl r .nil I1.kIn
    exact run_anyG G hgd hr tk I1 b1 b2 (callM_sp m1 b3 q (fun v d M' H' st mm dd p => hP v d M' H' (st1.trans st) mm dd p) (hX.step st1))⟩
theorem de_fG (h : Fn1G X.prog X.w X.K X.mg X.base x k [] n 0 g S) (hgd : X.A.guards = some []) (hr : Room k X.A) (ha : DenA X (e :: es) t)
    (hg : Gl X x := by rfl) (hdb : (x == ("__debug__" : Str)) = false := by decide) (he : starEach (e :: es) X.env = (false, eval e X.env) :: starEach es X.env := by rfl) (hpl : (backTo pos (starEach es X.env)).any (·.1) = false := by rfl) :
    DenE X (.Call (.Name x p) (e :: es) [] pos) (aCall S g n t) := by
  obtain ⟨f, fd, ps, h1, h2, h3, h4⟩ := h.ex
  exact de_callG h1 hgd hr h2 h3 h4 ha hg hdb he hpl
end
theorem fn1G_plain {P : Program} {w : World} {K : PySem.W.Frag} {mg : Str → Option Value} {base : Heap} {x nm qual : Str} {params : Arguments} {body : List Stmt} {scope : Scope} {k n : Nat} {f : Addr} {fd : FuncData} {ps : List Str} {S : ASp} (G : FnG P w K mg base (L2.CX P w) k f fd ps (spOf K S)) (Fd : FunD K nm qual params body scope [] [] f fd) (hm : mg x = some (.ref f)) (hn : ps.length = n)
    (h : ∀ (kV doc pm : Value) (an : Option Addr) (cdv ct : Value) (us : List Value), us.length = ps.length → bindArgs (PySem.W.fnOf nm qual params body scope .none kV doc pm an cdv ct) ⟨us, []⟩ = pure (ps.zip us)) : Fn1G P w K mg base x k [] n 0 (fun ds _ => ds) S :=
  ⟨f, fd, ps, G, hm, Fd.kp, kb_plain n hn fun s us hl => Fd.bindsA h s us hl⟩
end Ab
set_option maxRecDepth 100000
set_option maxHeartbeats 4000000
/-! Ab35: memory up to its order. -/
namespace Ab
open PySem PySem.Spec L2 PyProof.Rows
open Classical in
/-- how often an item stands in memory -/
noncomputable def one (x y : Addr × MO) : Nat := if y = x then 1 else 0
noncomputable def mc (x : Addr × MO) : Mem → Nat
  | [] => 0
  | y :: r => one x y + mc x r
theorem mc_nil {x : Addr × MO} : mc x [] = 0 := rfl
theorem mc_cons {x y : Addr × MO} {r : Mem} : mc x (y :: r) = one x y + mc x r := rfl
theorem mc_app {x : Addr × MO} : ∀ {l r : Mem}, mc x (l ++ r) = mc x l + mc x r
  | [], r => by simp [mc]
  | y :: l, r => by
    have := mc_app (x := x) (l := l) (r := r)
    simp only [List.cons_append, mc_cons, this]
    omega
theorem mc_perm {l r : Mem} (h : l.Perm r) (x : Addr × MO) : mc x l = mc x r := by
  induction h with
  | nil => rfl
  | cons _ _ ih => simp only [mc_cons, ih]
  | swap => simp only [mc_cons]; omega
  | trans _ _ h1 h2 => exact h1.trans h2
theorem mc_pos {x : Addr × MO} : ∀ {l : Mem}, 0 < mc x l → x ∈ l
  | [], h => by simp [mc] at h
  | y :: l, h => by
    by_cases e : y = x
    · rw [e]; exact List.mem_cons_self
    · have e0 : one x y = 0 := by unfold one; rw [if_neg e]
      rw [mc_cons, e0] at h
      exact List.mem_cons_of_mem _ (mc_pos (by omega))
theorem one_self {x : Addr × MO} : one x x = 1 := by unfold one; rw [if_pos rfl]
theorem perm_mc : ∀ {l r : Mem}, (∀ x, mc x l = mc x r) → l.Perm r
  | [], r, h => by
    cases r with
    | nil => exact .nil
    | cons y r =>
      have := h y
      rw [mc_nil, mc_cons, one_self] at this
      omega
  | y :: l, r, h => by
    have hm : y ∈ r := mc_pos (by rw [← h y, mc_cons, one_self]; omega)
    obtain ⟨s, t, rfl⟩ := List.append_of_mem hm
    refine (List.Perm.cons y (perm_mc (r := s ++ t) fun x => ?_)).trans List.perm_middle.symm
    have := h x
    simp only [mc_cons, mc_app] at this ⊢
    omega
theorem put_of {M R : Mem} {a : Addr} {o : MO} (o' : MO) (h : M.Perm ((a, o) :: R)) : ∃ M', PutM M a o o' M' ∧ M'.Perm ((a, o') :: R) := by
  have go : ∀ {s t : Mem}, PutM (s ++ (a, o) :: t) a o o' (s ++ (a, o') :: t) := fun {s t} => by
    induction s with
    | nil => exact .here
    | cons q s ih => exact .there ih
  obtain ⟨s, t, rfl⟩ := List.append_of_mem (h.mem_iff.mpr List.mem_cons_self)
  refine ⟨_, go, List.perm_middle.trans (List.Perm.cons _ ?_)⟩
  exact List.Perm.cons_inv (a := (a, o)) (List.perm_middle.symm.trans h)
theorem less_of {M C J : Mem} (h : M.Perm (C ++ J)) : ∃ M1, Less M1 M ∧ M1.Perm C := by
  obtain ⟨l, h1, h2⟩ := List.exists_perm_sublist (List.sublist_append_left C J) h.symm
  exact ⟨l, h2, h1⟩
theorem callM_p {S : ASp} {ds : List D} {M C R : Mem} {P : AK} {EX : XKA} (h : M.Perm (C ++ R)) (q : S ds C (fun d Mc => P d (Mc ++ R)) (fun x Mc => EX x (Mc ++ R))) : CallM S ds M P EX := ⟨C, R, h.symm, q⟩
theorem split_p {M C R : Mem} (h : M.Perm (C ++ R)) : Split M C R := h.symm
end Ab
set_option maxRecDepth 100000
set_option maxHeartbeats 4000000
/-! Ab36: steps of the new readings. -/
namespace Ab
open PySem PySem.Spec L2 PyProof.Rows
section
variable {ρ : Rho} {M : Mem} {P : AK} {EX : XKA} {k : KE} {ta tb te to ti : AE} {t : AA} {PL : List D → Mem → Prop} {A B : Prop} {x y d : D}
theorem aDGet_r (h : to ρ M (fun x M1 => ti ρ M1 (fun y M2 => ∃ kvs k d, DicR M2 x kvs ∧ keyOf y = some k ∧ valD kvs k = some d ∧ P d M2) EX) EX) : aDGet to ti ρ M P EX := h
theorem aDGet1_r (h : to ρ M (fun x M1 => (∃ kvs, DicR M1 x kvs) ∧ ti ρ M1 (fun y M2 => ∃ kvs k, DicR M2 x kvs ∧ keyOf y = some k ∧ P ((valD kvs k).getD .non) M2) EX) EX) : aDGet1 to ti ρ M P EX := h
theorem aDPop_r (h : to ρ M (fun x M1 => (∃ kvs, DicR M1 x kvs) ∧ ti ρ M1 (fun y M2 => ∃ a kvs k d M3, x = .ref a ∧ PutM M2 a (.dK kvs) (.dK (dropD kvs k)) M3 ∧ keyOf y = some k ∧ valD kvs k = some d ∧ P d M3) EX) EX) : aDPop to ti ρ M P EX := h
theorem aDPut_r (h : te ρ M (fun d M1 => to ρ M1 (fun x M2 => ti ρ M2 (fun y M3 => ∃ a kvs kk M4, x = .ref a ∧ PutM M3 a (.dK kvs) (.dK (putKD kvs kk d)) M4 ∧ keyOf y = some kk ∧ kvs.length < 100000 ∧ k.nx ρ M4) (fun z M' => k.ex z ρ M')) (fun z M' => k.ex z ρ M')) (fun z M' => k.ex z ρ M')) : aDPut to ti te ρ M k := h
theorem aDicM_r (h : ∀ q, q ∉ dom M → P (.ref q) (M ++ [(q, .dK [])])) : aDicM ρ M P EX := h
theorem aDispM_r {ks : List Str} (h : t ρ M (fun ds M1 => ∀ q, q ∉ dom M1 → P (.ref q) (M1 ++ [(q, .dK (mkKD ks ds))])) EX) : aDispM ks t ρ M P EX := h
theorem aPar_r {i j : Nat} (h : t ρ M (fun ds M1 => ∃ x y, ds = [x, y] ∧ k.nx (sS (sS ρ i x) j y) M1) (fun x M' => k.ex x ρ M')) : aPar i j t ρ M k := h
theorem aListV_r (h : te ρ M (fun x M1 => ∃ kvs, DicR M1 x kvs ∧ P (.lst (kvs.map (·.2))) M1) EX) : aListV te ρ M P EX := h
theorem aTabGet_r {c : Addr} {kvs : List (Str × Int)} (h : to ρ M (fun x M1 => x = .ref c ∧ te ρ M1 (fun y M2 => ∃ z : Str, y = .str z ∧ P (((kvs.lookup z).map D.int).getD .non) M2) EX) EX) : aTabGet c kvs to te ρ M P EX := h
theorem aTupRg_r (h : t ρ M (fun ds M1 => ∃ i j : Int, ds = [.int i, .int j] ∧ (-(2 ^ 62) ≤ i ∧ i < 2 ^ 62 ∧ -(2 ^ 62) ≤ j ∧ j < 2 ^ 62 ∧ (j - i).toNat ≤ 100000) ∧ P (.tup (rngD i (j - i).toNat)) M1) EX) : aTupRg t ρ M P EX := h
theorem same_r (h : B) : x = x ∧ B := ⟨rfl, h⟩
theorem par_r {x y : D} {Q : D → D → Prop} (h : Q x y) : ∃ x' y', [x, y] = [x', y'] ∧ Q x' y' := ⟨x, y, rfl, h⟩
/-- a dict's item read: the dict is in memory -/
theorem dget_m {a : Addr} {kvs : List (Key × D)} {kk : Key} {v : D} {P : D → Prop} (hm : (a, MO.dK kvs) ∈ M) (hk : keyOf y = some kk) (hv : valD kvs kk = some v) (h : P v) : ∃ kvs' k' d', DicR M (.ref a) kvs' ∧ keyOf y = some k' ∧ valD kvs' k' = some d' ∧ P d' := ⟨kvs, kk, v, .mu hm, hk, hv, h⟩
theorem lv_m {a : Addr} {kvs : List (Key × D)} {P : D → Prop} (hm : (a, MO.dK kvs) ∈ M) (h : P (.lst (kvs.map (·.2)))) : ∃ kvs', DicR M (.ref a) kvs' ∧ P (.lst (kvs'.map (·.2))) := ⟨kvs, .mu hm, h⟩
theorem inst_m {a C : Addr} {fs : List (Str × D)} {m : Str} (hm : (a, MO.ins C fs) ∈ M) (hl : fs.lookup m = none) (h : A) : (∃ fs', InsA M (.ref a) C fs' ∧ fs'.lookup m = none) ∧ A := ⟨⟨fs, .mu hm, hl⟩, h⟩
theorem fld_m {a C : Addr} {fs : List (Str × D)} {f : Str} {v : D} {P : D → Prop} (hm : (a, MO.ins C fs) ∈ M) (hl : fs.lookup f = some v) (h : P v) : ∃ fs' v', InsA M (.ref a) C fs' ∧ fs'.lookup f = some v' ∧ P v' := ⟨fs, v, .mu hm, hl, h⟩
end
section
variable {X : Cx}
/-- a tuple against () -/
def EqNilTA : A2 := fun x y M P => ∃ l, x = .tup l ∧ y = .tup [] ∧ P (.bl l.isEmpty) M
theorem op_eqNilT (hu : X.A.units < cLine) : OpR X (compareOp .Eq) (fun x y H Q => ∃ a b xs, x = .ref a ∧ y = .ref b ∧ SqT X.K H a xs ∧ SqT X.K H b [] ∧ Q (.bl xs.isEmpty) H) := by
  intro pins s σ H x y v u Q I rx ry h
  obtain ⟨a, b, xs, rfl, rfl, ha, hb, q⟩ := h
  cases rx
  cases ry
  obtain ⟨us, r1, p1, _⟩ := I.tuple ha
  obtain ⟨ws, r2, p2, _⟩ := I.tuple hb
  cases r2
  have go := SeqAt.RcAt.tuples (e := fun _ => true) (items := us.toArray) (items2 := #[]) p1 p2 hu (fun j h1 h2 => absurd h2 (Nat.not_lt_zero j))
  have e : ((List.range (min us.toArray.size (#[] : Array Value).size)).all (fun _ => true) && us.toArray.size == (#[] : Array Value).size) = xs.isEmpty := by
    cases r1 <;> simp
  rw [e] at go
  exact go X.prog X.w X.xe _ ⟨.bl _, H, I, rfl, q⟩
theorem ok_eqNilT (hu : X.A.units < cLine) : OkA2 X (compareOp .Eq) EqNilTA := fun F x y v w M P H Q m dv dw h hP => by
  obtain ⟨l, rfl, rfl, q⟩ := h
  obtain ⟨a, xs, rfl, h1, h2⟩ := dv.tup_inv
  obtain ⟨b, ys, rfl, h3, h4⟩ := dw.tup_inv
  cases h4
  refine ⟨_, op_eqNilT hu, a, b, xs, rfl, rfl, h1, h3, ?_⟩
  have e : xs.isEmpty = l.isEmpty := by cases h2 <;> rfl
  rw [e]
  exact hP _ _ M H (Step.refl H M) m (.bl _) q
end
section
variable {X : Cx} {pos : Pos}
/-- a, b, .. = a list -/
def gLstA (n : Nat) (gs : AGs) : AG := fun d ρ M P => ∃ l, LstR M d l ∧ l.length = n ∧ gs l ρ M P
theorem dg_lst {es : List Expr} {j : Nat} {gs : AGs} {n : Nat} {vs : List Nat} (hc : X.calm = true) (h : DenGs X es vs gs) (hn : (assignEach es X.env).length = n := by rfl) (hst : (assignEach es X.env).findIdx? (·.1) = none := by rfl) : DenG X (.Tuple es j pos) vs (gLstA n gs) :=
  ⟨fun F v d ρ M P W σ H Q S dv tk q hP => fun pins s u I r => by
    obtain ⟨l, hr, hl, q⟩ := q
    obtain ⟨a, xs, rfl, hs, dvs⟩ := hr.inv S.ms dv
    exact (pg_lst hc (pgs_gt (X := X)) hn hst).run pins s σ H _ u Q I r ⟨a, xs, rfl, hs, dvs.length.trans hl, h.run F xs l ρ M P W σ H Q S dvs tk q hP⟩⟩
theorem gLstA_r {n : Nat} {gs : AGs} {ds : List D} {ρ : Rho} {M : Mem} {PR : Rho → Mem → Prop} (hl : ds.length = n) (h : gs ds ρ M PR) : gLstA n gs (.lst ds) ρ M PR := ⟨ds, .fr, hl, h⟩
end
end Ab
set_option maxRecDepth 100000
set_option maxHeartbeats 4000000
/-! Ab37: isinstance of an own class; of a tuple of built-in types. -/
namespace Ab
open PySem PySem.Spec L2 PyProof.Rows
/-- what isinstance asks of an own class -/
structure OwnI (K : PySem.W.Frag) (C : Addr) : Prop where
  cl : Cls K C
  ha : PySem.W.findIn K (.ref C) "__class__" = some (some (.builtin "object.__class__"))
  hn : PySem.W.specialIn K (.builtin "object.__class__") "__get__" = some (some (.builtin "getset_descriptor.__get__"))
  ht : PySem.W.takesIn K (.builtin "object.__class__") = some true
  hm : PySem.W.mroIn K C (.type "object") = some true
  yes : PySem.W.kitOne K (.ref C) (.ref C) = some true
  nInt : PySem.W.kitOne K (.type "int") (.ref C) = some false
  nStr : PySem.W.kitOne K (.type "str") (.ref C) = some false
  nDic : PySem.W.kitOne K (.type "dict") (.ref C) = some false
inductive IsiOwnA (C : Addr) : AC
  | own {x : D} {fs : List (Str × D)} {M : Mem} {P : AK} : InsA M x C fs → P (.bl true) M → IsiOwnA C [x, .ref C] M P
  | int {i : Int} {M : Mem} {P : AK} : P (.bl false) M → IsiOwnA C [.int i, .ref C] M P
  | str {i : Str} {M : Mem} {P : AK} : P (.bl false) M → IsiOwnA C [.str i, .ref C] M P
  | dic {x : D} {kvs : List (Key × D)} {M : Mem} {P : AK} : DicR M x kvs → P (.bl false) M → IsiOwnA C [x, .ref C] M P
section
variable {X : Cx} {C : Addr}
theorem okc_isiOwn (h : OwnI X.K C) : OkC X (.builtin "isinstance") (IsiOwnA C) := fun F ds vs M P H Q m dv q hP => by
  cases q with
  | own hi q =>
    cases dv with
    | cons d1 d2 =>
      cases d2 with
      | cons d2 d3 =>
        cases d3; cases d2
        obtain ⟨a, dx, ws, rfl, e1, e2⟩ := hi.inv m d1
        exact ⟨_, call_isi, _, _, _, _, _, rfl, .own _, .base (.ins e1 h.cl h.ha h.hn h.ht h.hm), h.yes, hP _ _ M H (Step.refl H M) m (.bl _) q⟩
  | int q =>
    cases dv with
    | cons d1 d2 =>
      cases d2 with
      | cons d2 d3 =>
        cases d3; cases d2; cases d1
        exact ⟨_, call_isi, _, _, _, _, _, rfl, .own _, .base (.int _), h.nInt, hP _ _ M H (Step.refl H M) m (.bl _) q⟩
  | str q =>
    cases dv with
    | cons d1 d2 =>
      cases d2 with
      | cons d2 d3 =>
        cases d3; cases d2; cases d1
        exact ⟨_, call_isi, _, _, _, _, _, rfl, .own _, .base (.str _), h.nStr, hP _ _ M H (Step.refl H M) m (.bl _) q⟩
  | dic hd q =>
    cases dv with
    | cons d1 d2 =>
      cases d2 with
      | cons d2 d3 =>
        cases d3; cases d2
        obtain ⟨a, ws, rfl, e1, e2⟩ := hd.inv m d1
        exact ⟨_, call_isi, _, _, _, _, _, rfl, .own _, .base (.dK e1), h.nDic, hP _ _ M H (Step.refl H M) m (.bl _) q⟩
/-- isinstance(x, (T, ..)), built-in types -/
def kitL (n : String) : List String → Option Bool
  | [] => some false
  | c :: cs => match kitB n c with
    | some true => some true
    | some false => kitL n cs
    | none => none
theorem kitL_ok {K : PySem.W.Frag} {n : String} : ∀ {cs : List String} {b : Bool}, kitL n cs = some b → PySem.W.kitAny K (.type n) (cs.map Value.type) = some b
  | [], b, h => h
  | c :: cs, b, h => by
    unfold kitL at h
    cases e : kitB n c with
    | none => rw [e] at h; cases h
    | some k =>
      rw [e] at h
      cases k with
      | true =>
        have hb : b = true := by simpa using h.symm
        exact kitAny_cons (kit_ty e) (fun z => by cases z) (fun _ => hb)
      | false => exact kitAny_cons (kit_ty e) (fun _ => kitL_ok h) (fun z => by cases z)
theorem call_isiTT : CallR X (.builtin "isinstance") (fun xs H Q => ∃ (x : V) (tp : Addr) (cs : List V) (t : Value) (us : List Value) (b : Bool), xs = [x, .ref tp] ∧ SqT X.K H tp cs ∧ Paired ClsV cs us ∧ TyX X.K H x t ∧ PySem.W.kitAny X.K t us = some b ∧ Q (.bl b) H) := by
  intro pins s σ H xs us Q I r h
  obtain ⟨x, tp, cs, t, ws, b, rfl, hT, k, ty, e, q⟩ := h
  obtain ⟨u1, u2, rfl, r1, r2⟩ := vals2 r
  cases (show u2 = Value.ref tp from r2)
  obtain ⟨P, Z, p, hx⟩ := kit_of I r1 ty
  obtain ⟨its, rv, ⟨o, h1, h2, n, h3⟩, _⟩ := I.tuple hT
  have e3 := ClsV.all k rv
  subst e3
  obtain ⟨oc, od, dt, sl⟩ := o
  simp only at h2 h3
  subst h2 h3
  exact PySem.W.kia_tup Z I.kIn p h1 e hx fun tk => ⟨.bl b, H, I.tok tk, rfl, q⟩
theorem cls_tys {K : PySem.W.Frag} {H : Hp} {U : List Addr} : ∀ {cs : List String} {vs : List V}, DVs K H U vs (cs.map D.ty) → Paired ClsV vs (cs.map Value.type)
  | [], _, .nil => .nil
  | c :: cs, _, .cons a b => by cases a; exact .cons (.ty c) (cls_tys b)
inductive IsiTA : AC
  | mk {x : D} {n : String} {cs : List String} {b : Bool} {M : Mem} {P : AK} : TyA M x n → kitL n cs = some b → P (.bl b) M → IsiTA [x, .tup (cs.map D.ty)] M P
theorem okc_isiT : OkC X (.builtin "isinstance") IsiTA := fun F ds vs M P H Q m dv h hP => by
  cases h with
  | mk ht hk q =>
    cases dv with
    | cons d1 d2 =>
      cases d2 with
      | cons d2 d3 =>
        cases d3
        obtain ⟨tp, xs, rfl, hs, t⟩ := d2.tup_inv
        exact ⟨_, call_isiTT, _, tp, xs, _, _, _, rfl, hs, cls_tys t, ht.tyx m d1, kitL_ok hk, hP _ _ M H (Step.refl H M) m (.bl _) q⟩
end
end Ab
set_option maxRecDepth 100000
set_option maxHeartbeats 4000000
/-! Ab38: the head, with tables; recursion, own operators, guarded defs for it. -/
namespace Ab
open PySem PySem.Spec L2 PyProof.Rows
theorem owniB_ok {K : PySem.W.Frag} {C : Addr} (hc : Cls K C) (h : owniB K C = true) : OwnI K C := by
  obtain ⟨h1, h⟩ := He.ba h
  obtain ⟨h2, h⟩ := He.ba h
  obtain ⟨h3, h⟩ := He.ba h
  obtain ⟨h4, h⟩ := He.ba h
  obtain ⟨h5, h⟩ := He.ba h
  obtain ⟨h6, h⟩ := He.ba h
  obtain ⟨h7, h8⟩ := He.ba h
  exact ⟨hc, of_decide_eq_true h1, of_decide_eq_true h2, of_decide_eq_true h3, of_decide_eq_true h4, of_decide_eq_true h5, of_decide_eq_true h6, of_decide_eq_true h7, of_decide_eq_true h8⟩
section
variable {K : PySem.W.Frag}
theorem yexcC {x : Str} (c : (Xb.excC x).ok K = true) : ExcC K (He.ga K x) := excCB_ok c
theorem ykit1 {x y : Str} {b : Bool} (c : (Xb.kit1 x y b).ok K = true) : PySem.W.kitOne K (.ref (He.ga K x)) (.ref (He.ga K y)) = some b := of_decide_eq_true c
theorem ykitn {x : Str} {ys : List Str} {b : Bool} (c : (Xb.kitn x ys b).ok K = true) : PySem.W.kitAny K (.ref (He.ga K x)) (ys.map fun y => Value.ref (He.ga K y)) = some b := of_decide_eq_true c
theorem yexb {x : Str} {bs : List Value} {new : String} (c : (Xb.exb x bs new).ok K = true) : PySem.W.excIn K (He.ga K x) bs new = true ∧ PySem.W.keepIn K (.ref (He.ga K x)) = true ∧ PySem.W.subIn K (.ref (He.ga K x)) (.type "BaseException") = some true ∧
    PySem.W.typeIn K (.ref (He.ga K x)) = some (.type "type") := by
  obtain ⟨c1, c⟩ := He.ba c
  obtain ⟨c2, c⟩ := He.ba c
  obtain ⟨c3, c4⟩ := He.ba c
  exact ⟨c1, c2, of_decide_eq_true c3, of_decide_eq_true c4⟩
theorem xsub {T : String} {x : Str} (c : (Xb.sub T x).ok K = true) : PySem.W.subIn K (.type T) (.ref (He.ga K x)) = some false := of_decide_eq_true c
theorem xowni {x : Str} (hc : Cls K (He.ga K x)) (c : (Xb.owni x).ok K = true) : OwnI K (He.ga K x) := owniB_ok hc c
end
theorem yat {xs : List Xb} {K : PySem.W.Frag} (c : (xs.all fun x => x.ok K) = true) (i : Nat) {x : Xb} (h : xs[i]? = some x := by rfl) : x.ok K = true := List.all_eq_true.mp c x (List.mem_of_getElem? h)
theorem says_dicW {fa : List He.Fa} {fn : List He.DefD} {ts : List He.Tab} {w : World} {K : PySem.W.Frag} (c : He.SaysT fa fn ts w K) (i : Nat) {t : He.Tab} (h : ts[i]? = some t := by rfl) : He.dicW K (t.1 K) = some (He.keysIn w.params t.2) := by
  have e : ts.map (fun t => He.dicW K (t.1 K)) = ts.map fun t => some (He.keysIn w.params t.2) := congrArg (fun z : He.AlT => z.2) c
  have e2 : (ts.map fun t => He.dicW K (t.1 K))[i]? = (ts.map fun t => some (He.keysIn w.params t.2))[i]? := by rw [e]
  rw [List.getElem?_map, List.getElem?_map, h] at e2
  exact Option.some.inj e2
theorem tab_says {fa : List He.Fa} {fn : List He.DefD} {ts : List He.Tab} {w : World} {K : PySem.W.Frag} {x : Str} {kvs : List (Str × Int)} (c : He.SaysT fa fn ts w K) (i : Nat) (h : ts[i]? = some (tabD x kvs)) (hv : (Xb.vals x kvs).ok K = true) : Tab K w (He.ga K x) kvs :=
  tab_of (says_dicW c i h) hv
section
variable {P : Program} {w : World} {K : PySem.W.Frag} {mg : Str → Option Value} {base : Heap} {k : Nat} {f : Addr} {fd : FuncData} {ps : List Str} {S : ASp}
/-- a promise that is never asked for -/
theorem fnOk_no (h : ∀ ds M P EX, ¬ S ds M P EX) : FnOk P w K mg base (L2.CX P w) k f fd ps (spOf K S) :=
  ⟨fun vs H Q E hs => by
    obtain ⟨F, ds, M, P, EX, _, _, hs, _⟩ := hs
    exact absurd hs (h _ _ _ _), fun A outer s H args us vs Q E _ _ _ _ hs => by
    obtain ⟨F, ds, M, P, EX, _, _, hs, _⟩ := hs
    exact absurd hs (h _ _ _ _)⟩
theorem fn1_of {x : Str} {n : Nat} {nm qual : Str} {params : Arguments} {body : List Stmt} {scope : Scope} (G : FnOk P w K mg base (L2.CX P w) k f fd ps (spOf K S)) (Fd : FunD K nm qual params body scope [] [] f fd) (hm : mg x = some (.ref f)) (hn : ps.length = n)
    (h : ∀ (kV doc pm : Value) (an : Option Addr) (cdv ct : Value) (us : List Value), us.length = ps.length → bindArgs (PySem.W.fnOf nm qual params body scope .none kV doc pm an cdv ct) ⟨us, []⟩ = pure (ps.zip us)) : Fn1 P w K mg base x k [] n 0 (fun ds _ => ds) S := fn1_plain G Fd hm hn h
theorem own1_of {C : Addr} {x : Str} {n : Nat} {nm qual : Str} {params : Arguments} {body : List Stmt} {scope : Scope} (G : FnOk P w K mg base (L2.CX P w) k f fd ps (spOf K S)) (Fd : FunD K nm qual params body scope [] [] f fd) (hm : Meth K C x f) (hn : ps.length = n)
    (h : ∀ (kV doc pm : Value) (an : Option Addr) (cdv ct : Value) (us : List Value), us.length = ps.length → bindArgs (PySem.W.fnOf nm qual params body scope .none kV doc pm an cdv ct) ⟨us, []⟩ = pure (ps.zip us)) : Own1 P w K mg base C x k n S :=
  ⟨f, fd, ps, G, hm.at_, hm.fn, fun s us hl => Fd.bindsA h s us (by rw [hl, hn])⟩
theorem fn1G_of {x : Str} {n : Nat} {nm qual : Str} {params : Arguments} {body : List Stmt} {scope : Scope} (G : FnG P w K mg base (L2.CX P w) k f fd ps (spOf K S)) (Fd : FunD K nm qual params body scope [] [] f fd) (hm : mg x = some (.ref f)) (hn : ps.length = n)
    (h : ∀ (kV doc pm : Value) (an : Option Addr) (cdv ct : Value) (us : List Value), us.length = ps.length → bindArgs (PySem.W.fnOf nm qual params body scope .none kV doc pm an cdv ct) ⟨us, []⟩ = pure (ps.zip us)) : Fn1G P w K mg base x k [] n 0 (fun ds _ => ds) S :=
  ⟨f, fd, ps, G, hm, Fd.kp, kb_plain n hn fun s us hl => Fd.bindsA h s us hl⟩
theorem mk1_of {x : Str} {C : Addr} {n : Nat} {nm qual : Str} {params : Arguments} {body : List Stmt} {scope : Scope} (G : FnOk P w K mg base (L2.CX P w) k f fd ps (spOf K S)) (Fd : FunD K nm qual params body scope [] [] f fd) (hM : Mk K C f) (hm : mg x = some (.ref C)) (hn : ps.length = n + 1)
    (h : ∀ (kV doc pm : Value) (an : Option Addr) (cdv ct : Value) (us : List Value), us.length = ps.length → bindArgs (PySem.W.fnOf nm qual params body scope .none kV doc pm an cdv ct) ⟨us, []⟩ = pure (ps.zip us)) : Mk1 P w K mg base x C k [] n 0 (fun ds es => ds ++ es) S :=
  ⟨f, fd, ps, G, hM, hm, fun vs _ => vs, fun us _ => us, fun s x us ws _ h1 h2 => by
    have e : ws = [] := List.length_eq_zero_iff.mp h2
    subst e
    exact Fd.bindsA h s (.ref x :: us) (by rw [hn, List.length_cons, h1]), fun _ _ _ _ _ _ r _ => r, fun H U vs zs ds es _ hz d1 d2 => by
    have e : zs = [] := List.length_eq_zero_iff.mp hz
    subst e
    cases d2
    rw [List.append_nil]
    exact d1⟩
end
end Ab
set_option maxRecDepth 100000
set_option maxHeartbeats 4000000
namespace K84a
open PySem L2 PyProof.Rows Ab
structure Ad where
  JOINS : Addr
  NoTalk : Addr
  Store : Addr
  Talk : Addr
  WORDS_terms : Addr
def tab_JOINS : List (Str × Int) := [("not", 1), ("both", 2), ("either", 2)]
def tab_WORDS_terms : List (Str × Int) := [("none", 0), ("all", 0), ("not", 1), ("and", 2), ("or", 2), ("but", 2)]
structure Fx (P : Program) (w : World) (K : PySem.W.Frag) (mg : Str → Option Value) (a : Ad) : Prop where
  b_all : mg "all" = none
  b_any : mg "any" = none
  b_bool : mg "bool" = none
  b_dict : mg "dict" = none
  b_int : mg "int" = none
  b_isinstance : mg "isinstance" = none
  b_len : mg "len" = none
  b_list : mg "list" = none
  b_max : mg "max" = none
  b_min : mg "min" = none
  b_range : mg "range" = none
  b_repr : mg "repr" = none
  b_sorted : mg "sorted" = none
  b_str : mg "str" = none
  b_sum : mg "sum" = none
  b_tuple : mg "tuple" = none
  b_zip : mg "zip" = none
  c_ADDENDS : ∃ t, mg "ADDENDS" = some (.int 12 t)
  c_DEEPEST : ∃ t, mg "DEEPEST" = some (.int 12 t)
  c_DEPTH : ∃ t, mg "DEPTH" = some (.int 6 t)
  c_LETTERS : ∃ t, mg "LETTERS" = some (.str "abcdefghijklmnopqrstuvwxyz" t)
  c_LONGEST : ∃ t, mg "LONGEST" = some (.int 8 t)
  c_MANY : ∃ t, mg "MANY" = some (.int 32 t)
  c_MOST_NUMBERS : ∃ t, mg "MOST_NUMBERS" = some (.int 2 t)
  c_MOST_PARTS : ∃ t, mg "MOST_PARTS" = some (.int 100 t)
  c_MOST_SETS : ∃ t, mg "MOST_SETS" = some (.int 3 t)
  c_STANDING : ∃ t, mg "STANDING" = some (.int 12 t)
  c_WORDS_sayings : ∃ t, mg "WORDS_sayings" = some (.int 24 t)
  tb_JOINS : Tab K w a.JOINS tab_JOINS
  tb_WORDS_terms : Tab K w a.WORDS_terms tab_WORDS_terms
  oi_Store : OwnI K a.Store
  oi_Talk : OwnI K a.Talk
  si_Store : PySem.W.subIn K (.type "int") (.ref a.Store) = some false
  ss_Store : PySem.W.subIn K (.type "str") (.ref a.Store) = some false
  sd_Store : PySem.W.subIn K (.type "dict") (.ref a.Store) = some false
  si_Talk : PySem.W.subIn K (.type "int") (.ref a.Talk) = some false
  ss_Talk : PySem.W.subIn K (.type "str") (.ref a.Talk) = some false
  sd_Talk : PySem.W.subIn K (.type "dict") (.ref a.Talk) = some false
  g_JOINS : mg "JOINS" = some (.ref a.JOINS)
  g_NoTalk : mg "NoTalk" = some (.ref a.NoTalk)
  g_Store : mg "Store" = some (.ref a.Store)
  k_Store : Cls K a.Store
  g_Talk : mg "Talk" = some (.ref a.Talk)
  k_Talk : Cls K a.Talk
  g_WORDS_terms : mg "WORDS_terms" = some (.ref a.WORDS_terms)
  n_Store_laid : NoAttr K a.Store "laid"
  n_Store_piles : NoAttr K a.Store "piles"
  n_Store_said : NoAttr K a.Store "said"
  n_Store_spent : NoAttr K a.Store "spent"
  n_Store_spoken_in : NoAttr K a.Store "spoken_in"
  n_Talk_number_names : NoAttr K a.Talk "number_names"
  n_Talk_set_names : NoAttr K a.Talk "set_names"
  n_Talk_top : NoAttr K a.Talk "top"
  x_NoTalk : PySem.W.excIn K a.NoTalk veB "ValueError.__new__" = true
  p_NoTalk : PySem.W.keepIn K (.ref a.NoTalk) = true
  e_NoTalk : PySem.W.subIn K (.ref a.NoTalk) (.type "BaseException") = some true
  t_NoTalk : PySem.W.typeIn K (.ref a.NoTalk) = some (.type "type")

/-! what the defs of the law do, over data -/
def oD : Option Int → D
  | none => .non
  | some i => .int i
def namB (s : Str) : Bool := decide (1 ≤ s.length) && (decide (s.length ≤ 8) && s.cps.toList.all fun c => decide (97 ≤ c ∧ c ≤ 122))
def namD : D → Bool
  | .str s => namB s
  | _ => false
def Odd : D → Prop
  | .str s => s.length ≤ 100000 ∧ s.cps.toList.all (fun c => decide (c < 55296)) = true
  | .non | .bl _ | .int _ | .tup _ | .lst _ | .dic _ => True
  | _ => False
def ltS (a b : Str) : Bool := decide (a.cps.toList < b.cps.toList)
def leS (a b : Str) : Bool := !ltS b a
def incB : List Str → Bool
  | [] => true
  | [_] => true
  | a :: b :: r => ltS a b && incB (b :: r)
def areB (S : List Str) (many : Int) : Bool := decide ((S.length : Int) ≤ many) && (S.all namB && incB S)
def talkOk (S N : List Str) (t : Int) : Bool := areB S 3 && areB N 2 && !(N.any fun n => decide (n ∈ S)) && decide (1 ≤ t)
def srtS (l : List Str) : List Str := l.mergeSort leS
def Tp (d : D) (S : List Str) : Prop := d = .tup (S.map D.str) ∨ d = .tpn (S.map D.str)
def Small2 (S : List Str) : Prop := S.length ≤ 50 ∧ ∀ s ∈ S, s.length ≤ 1000 ∧ s.cps.toList.all (fun c => decide (c < 55296)) = true
def talkF (sx : D) (N : List Str) (t : Int) : List (Str × D) := [("set_names", sx), ("number_names", .tup (N.map D.str)), ("top", .int t)]
def TalkD (a : Ad) (sx : D) (N : List Str) (t : Int) : D := .obj a.Talk (talkF sx N t)
def sp_is_name (a : Ad) : ASp := fun ds M P _ => ∃ d, ds = [d] ∧ M = [] ∧ Odd d ∧ P (.bl (namD d)) []
def sp_are_names (a : Ad) : ASp := fun ds M P _ => ∃ (x : D) (S : List Str) (many : Int), ds = [x, .int many] ∧ Tp x S ∧ M = [] ∧ Small2 S ∧ P (.bl (areB S many)) []
def sp_Talk_init (a : Ad) : ASp := fun ds M P EX => ∃ (x : Addr) (sx : D) (S N : List Str) (t : Int), ds = [.ref x, sx, .tup (N.map D.str), .int t] ∧ Tp sx S ∧ M = [(x, .ins a.Talk [])] ∧ Small2 S ∧ Small2 N ∧
  (talkOk S N t = true → P .non [(x, .ins a.Talk (talkF sx N t))]) ∧ (talkOk S N t = false → EX ⟨a.NoTalk, none⟩ [(x, .ins a.Talk [])])
def sp_Talk_sets (a : Ad) : ASp := fun ds M P _ => ∃ (sx : D) (N : List Str) (t : Int), ds = [TalkD a sx N t] ∧ M = [] ∧ P sx []
def sp_Talk_numbers (a : Ad) : ASp := fun ds M P _ => ∃ (sx : D) (N : List Str) (t : Int), ds = [TalkD a sx N t] ∧ M = [] ∧ P (.tup (N.map D.str)) []
def Pool (B : Int) (l : List D) : Prop := ∃ x c t : Int, l = [.int x, .int c, .int t] ∧ 0 ≤ c ∧ c < 1000000007 ∧ 0 ≤ t ∧ t ≤ B ∧ B ≤ 1000000
def sp_l_pool (a : Ad) : ASp := fun ds M P _ => ∃ (ns : List Int) (k : Int), ds = [.lsk (ns.map D.int), .int k] ∧ M = [] ∧ 0 ≤ k ∧ k ≤ 100 ∧ ∀ q l, Pool (7919 * k + 1) l → P (.ref q) [(q, .lst l)]
def sp_l_take (a : Ad) : ASp := fun ds M P _ => ∃ (p : Addr) (l : List D) (B m : Int), ds = [.ref p, .int m] ∧ M = [(p, .lst l)] ∧ Pool B l ∧ B < 1000000 ∧ 0 < m ∧ m ≤ 1000000 ∧
  ∀ (r : Int) (l' : List D), 0 ≤ r → r < m → Pool (B + 1) l' → P (.int r) [(p, .lst l')]
def sp_l_names (a : Ad) : ASp := fun ds M P _ => ∃ (p : Addr) (l : List D) (B : Int) (n : Nat), ds = [.ref p, .int n] ∧ M = [(p, .lst l)] ∧ Pool B l ∧ B < 900000 ∧ n ≤ 20 ∧
  ∀ (ns : List Str) (l' : List D), ns.length = n → ns.Nodup → (∀ s ∈ ns, namB s = true) → Pool (B + 300) l' → P (.lst (ns.map D.str)) [(p, .lst l')]
def Tongue (S N : List Str) : Prop := S.length ≤ 3 ∧ N.length ≤ 2 ∧ (∀ s ∈ S, namB s = true) ∧ (∀ s ∈ N, namB s = true) ∧ incB S = true ∧ incB N = true ∧ ∀ n ∈ N, n ∉ S
def tonD (S N : List Str) : D := .tup [.tpn (S.map D.str), .tpn (N.map D.str)]
def sp_l_tongue (a : Ad) : ASp := fun ds M P _ => ∃ (p : Addr) (l : List D) (B : Int), ds = [.ref p, .int 3, .int 2] ∧ M = [(p, .lst l)] ∧ Pool B l ∧ B < 800000 ∧
  ∀ (S N : List Str) (l' : List D), Tongue S N → Pool (B + 400) l' → P (tonD S N) [(p, .lst l')]
/-! sayings, terms, sums as the program measures them -/
def wholeD (lo hi : Option Int) : D → Bool
  | .int i => lo.all (fun l => decide (l ≤ i)) && hi.all (fun h => decide (i ≤ h))
  | _ => false
def Thg : D → Prop
  | .non | .bl _ | .int _ | .str _ | .tup _ | .lst _ | .dic _ => True
  | _ => False
inductive Gd : D → Prop
  | non : Gd .non
  | bl (b : Bool) : Gd (.bl b)
  | int (i : Int) : Gd (.int i)
  | str (s : Str) : Gd (.str s)
  | lst (l : List D) : Gd (.lst l)
  | dic (l : List (Key × D)) : Gd (.dic l)
  | tup {l : List D} : l.length ≤ 10000 → (∀ d ∈ l, Gd d) → Gd (.tup l)
def sp_is_whole (a : Ad) : ASp := fun ds M P _ => ∃ (d : D) (lo hi : Option Int), ds = [d, oD lo, oD hi] ∧ M = [] ∧ Thg d ∧ P (.bl (wholeD lo hi d)) []
def tW : List (Str × Int) := [("none", 0), ("all", 0), ("not", 1), ("and", 2), ("or", 2), ("but", 2)]
def tJ : List (Str × Int) := [("not", 1), ("both", 2), ("either", 2)]
def partsD (S : List Str) : Nat → D → Int
  | 0, _ => 0
  | n + 1, .str s => if s ∈ S then 1 else 0
  | n + 1, .tup (.str w :: kids) => if tW.lookup w = some (kids.length : Int) then (if (0 : Int) ∈ kids.map (partsD S n) then 0 else 1 + (kids.map (partsD S n)).sum) else 0
  | _, _ => 0
def termB (S : List Str) (d : D) : Bool := decide (0 < partsD S 12 d) && decide (partsD S 12 d ≤ 100)
def addB (S N : List Str) : D → Bool
  | .tup [.str w, .int _] => decide (w = "lot")
  | .tup [.str w, .int _, x] => if w = "num" then (match x with
    | .str s => decide (s ∈ N)
    | _ => false) else decide (w = "size") && termB S x
  | _ => false
def sumB (S N : List Str) : D → Bool
  | .tup l => decide (l.length ≤ 12) && l.all (addB S N)
  | _ => false
def plainB (S N : List Str) (w : Str) : List D → Bool
  | [x, y] => if w = "within" ∨ w = "same" then termB S x && termB S y else if w = "parts" then wholeD (some 2) none x && sumB S N y else if w = "atmost" ∨ w = "equal" then sumB S N x && sumB S N y else false
  | _ => false
def wordsD (S N : List Str) : Nat → D → Int
  | 0, _ => 0
  | n + 1, .tup (.str w :: p :: ps) => match tJ.lookup w with
    | none => if plainB S N w (p :: ps) = true then 1 else 0
    | some k => if ((p :: ps).length : Int) = k then (if (0 : Int) ∈ (p :: ps).map (wordsD S N n) then 0 else 1 + ((p :: ps).map (wordsD S N n)).sum) else 0
  | _, _ => 0
def sayB (S N : List Str) (d : D) : Bool := decide (1 ≤ wordsD S N 6 d) && decide (wordsD S N 6 d ≤ 24)
def sp_parts_of (n : Nat) (a : Ad) : ASp := fun ds M P _ => ∃ (sx : D) (S N : List Str) (t : Int) (d : D) (left : Nat), ds = [TalkD a sx N t, d, .int left] ∧ Tp sx S ∧ M = [] ∧ Gd d ∧ left < n ∧ P (.int (partsD S left d)) []
def sp_is_term (a : Ad) : ASp := fun ds M P _ => ∃ (sx : D) (S N : List Str) (t : Int) (d : D), ds = [TalkD a sx N t, d] ∧ Tp sx S ∧ M = [] ∧ Gd d ∧ P (.bl (termB S d)) []
def sp_is_addend (a : Ad) : ASp := fun ds M P _ => ∃ (sx : D) (S N : List Str) (t : Int) (d : D), ds = [TalkD a sx N t, d] ∧ Tp sx S ∧ M = [] ∧ Gd d ∧ P (.bl (addB S N d)) []
def sp_is_sum (a : Ad) : ASp := fun ds M P _ => ∃ (sx : D) (S N : List Str) (t : Int) (d : D), ds = [TalkD a sx N t, d] ∧ Tp sx S ∧ M = [] ∧ Gd d ∧ P (.bl (sumB S N d)) []
def sp_is_plain (a : Ad) : ASp := fun ds M P _ => ∃ (sx : D) (S N : List Str) (t : Int) (w : Str) (l : List D), ds = [TalkD a sx N t, .str w, .lst l] ∧ Tp sx S ∧ M = [] ∧ (∀ d ∈ l, Gd d) ∧ l.length ≤ 10000 ∧ P (.bl (plainB S N w l)) []
def sp_words_in (n : Nat) (a : Ad) : ASp := fun ds M P _ => ∃ (sx : D) (S N : List Str) (t : Int) (d : D) (left : Nat), ds = [TalkD a sx N t, d, .int left] ∧ Tp sx S ∧ M = [] ∧ Gd d ∧ left < n ∧ P (.int (wordsD S N left d)) []
def sp_is_saying (a : Ad) : ASp := fun ds M P _ => ∃ (sx : D) (S N : List Str) (t : Int) (d : D), ds = [TalkD a sx N t, d] ∧ Tp sx S ∧ M = [] ∧ Gd d ∧ P (.bl (sayB S N d)) []
/-- how many cases a saying has, and its not -/
def lfC (w : Str) : Int × Int := (1, if w = "equal" then 2 else 1)
def cntD : Nat → D → Int × Int
  | 0, _ => (0, 0)
  | n + 1, .tup [.str w, x] => if w = "not" then ((cntD n x).2, (cntD n x).1) else lfC w
  | n + 1, .tup [.str w, x, y] => if w = "both" then ((cntD n x).1 * (cntD n y).1, (cntD n x).2 + (cntD n y).2) else if w = "either" then ((cntD n x).1 + (cntD n y).1, (cntD n x).2 * (cntD n y).2) else lfC w
  | _ + 1, .tup (.str w :: _) => lfC w
  | _, _ => (0, 0)
/-- a saying so deep at top, by its words alone -/
def cnB : Nat → D → Bool
  | 0, _ => false
  | n + 1, .tup [.str w, x] => w == "not" && cnB n x
  | n + 1, .tup [.str w, x, y] => if w = "both" ∨ w = "either" then cnB n x && cnB n y else w != "not"
  | _, _ => false
def cnt (d : D) : Int × Int := cntD 10 d
def cntL (l : List D) : Int := (l.map fun d => (cnt d).1).foldl (· * ·) 1
def sp_counts_of (n : Nat) (a : Ad) : ASp := fun ds M P _ => ∃ d : D, ds = [d] ∧ M = [] ∧ n ≤ 6 ∧ cnB n d = true ∧ P (.tup [.int (cnt d).1, .int (cnt d).2]) []
def sp_cases_many (a : Ad) : ASp := fun ds M P _ => ∃ l : List D, ds = [.tup l, .bl false] ∧ M = [] ∧ l.length ≤ 1000 ∧ (∀ d ∈ l, cnB 6 d = true) ∧ P (.int (cntL l)) []
/-! stores -/
def sp_Talk_eq (a : Ad) : ASp := fun ds M P _ => ∃ (sx sy : D) (S N S' N' : List Str) (t t' : Int), ds = [TalkD a sx N t, TalkD a sy N' t'] ∧ Tp sx S ∧ Tp sy S' ∧ M = [] ∧ Small2 S ∧ Small2 N ∧ Small2 S' ∧ Small2 N' ∧ P (.bl (decide (S = S' ∧ N = N' ∧ t = t'))) []
/-- what stands in a store, in a law's model -/
structure Mo where
  said : List (Int × D)
  next : Int
  marks : List (List (Int × D))
  log : List D
def saidK (l : List (Int × D)) : List (Key × D) := l.map fun q => (Sum.inl q.1, q.2)
def stF (T : D) (d : Addr) (n : Int) (p l : Addr) : List (Str × D) := [("spoken_in", T), ("said", .ref d), ("spent", .int n), ("piles", .ref p), ("laid", .ref l)]
def pilM (rs : List Addr) (ms : List (List (Int × D))) : Mem := (rs.zip ms).map fun q => (q.1, MO.dK (saidK q.2))
def stC (a : Ad) (T : D) (m : Mo) (s d p l : Addr) (rs : List Addr) : Mem := (s, MO.ins a.Store (stF T d m.next p l)) :: (d, MO.dK (saidK m.said)) :: (p, MO.lst (rs.map D.ref)) :: (l, MO.lst m.log) :: pilM rs m.marks
def StoreM (a : Ad) (T : D) (m : Mo) (s : Addr) (M : Mem) : Prop := ∃ d p l rs, rs.length = m.marks.length ∧ M.Perm (stC a T m s d p l rs)
def twoW (x : Str) : List D := [.tup [.str "in", .str x], .tup [.str "out", .str x]]
def sp_Store_init (a : Ad) : ASp := fun ds M P _ => ∃ (x : Addr) (T : D), ds = [.ref x, T] ∧ M = [(x, .ins a.Store [])] ∧ ∀ M', StoreM a T ⟨[], 0, [], []⟩ x M' → P .non M'
def sp_Store_all_said (a : Ad) : ASp := fun ds M P _ => ∃ (s : Addr) (T : D) (m : Mo), ds = [.ref s] ∧ StoreM a T m s M ∧ m.said.length ≤ 1000 ∧ ∀ M', StoreM a T m s M' → P (.tup (m.said.map (·.2))) M'
/-- one more is said -/
def Mo.say (m : Mo) (d : D) : Mo := { m with said := m.said ++ [(m.next, d)], next := m.next + 1 }
def Mo.lg (m : Mo) (x : Str) : Mo := { m with log := m.log ++ twoW x }
/-- the numbers said are below the next one, no two alike -/
def NumOk (m : Mo) : Prop := (m.said.map (·.1)).Pairwise (· < ·) ∧ ∀ q ∈ m.said, q.1 < m.next
def fitsB (S N : List Str) (l : List D) : Prop := l.length ≤ 12 ∧ (∀ d ∈ l, Gd d ∧ sayB S N d = true ∧ cnB 6 d = true) ∧ cntL l ≤ 32
def sp_Store_put_in (a : Ad) : ASp := fun ds M P _ => ∃ (s : Addr) (sx : D) (S N : List Str) (t : Int) (m : Mo) (d : D), ds = [.ref s, d] ∧ Tp sx S ∧ StoreM a (TalkD a sx N t) m s M ∧ NumOk m ∧ fitsB S N (m.said.map (·.2) ++ [d]) ∧
  ∀ M', StoreM a (TalkD a sx N t) (m.say d) s M' → P (.int m.next) M'
def sp_Store_say (a : Ad) : ASp := fun ds M P _ => ∃ (s : Addr) (sx : D) (S N : List Str) (t : Int) (m : Mo) (d : D), ds = [.ref s, d] ∧ Tp sx S ∧ StoreM a (TalkD a sx N t) m s M ∧ NumOk m ∧ fitsB S N (m.said.map (·.2) ++ [d]) ∧ m.log.length ≤ 10000 ∧
  ∀ M', StoreM a (TalkD a sx N t) ((m.say d).lg "say") s M' → P (.int m.next) M'
def Mo.sayL (m : Mo) (ys : List D) : Mo := ys.foldl Mo.say m
/-- sayings handed in: a tuple, a list, a list in memory -/
def HandA (x : D) (ys : List D) (Mx : Mem) : Prop := ((x = .tup ys ∨ x = .lst ys) ∧ Mx = []) ∨ ∃ b, x = .ref b ∧ Mx = [(b, .lst ys)]
def sp_Store_say_all (a : Ad) : ASp := fun ds M P _ => ∃ (s : Addr) (sx : D) (S N : List Str) (t : Int) (m : Mo) (x : D) (ys : List D) (Ms Mx : Mem), ds = [.ref s, x] ∧ Tp sx S ∧ HandA x ys Mx ∧ StoreM a (TalkD a sx N t) m s Ms ∧ M.Perm (Ms ++ Mx) ∧ NumOk m ∧ fitsB S N (m.said.map (·.2) ++ ys) ∧ m.log.length ≤ 10000 ∧
  ∀ Ms' M', StoreM a (TalkD a sx N t) ((m.sayL ys).lg "say_all") s Ms' → M'.Perm (Ms' ++ Mx) → P (.tup (rngD m.next ys.length)) M'
def Mo.drop (m : Mo) (n : Int) : Mo := { m with said := m.said.filter fun q => decide (q.1 ≠ n) }
def sp_Store_drop (a : Ad) : ASp := fun ds M P _ => ∃ (s : Addr) (T : D) (m : Mo) (n : Int), ds = [.ref s, .int n] ∧ StoreM a T m s M ∧ n ∈ m.said.map (·.1) ∧ m.log.length ≤ 10000 ∧ ∀ M', StoreM a T ((m.drop n).lg "drop") s M' → P .non M'
def Mo.mark (m : Mo) : Mo := { m with marks := m.marks ++ [m.said] }
def sp_Store_mark (a : Ad) : ASp := fun ds M P _ => ∃ (s : Addr) (T : D) (m : Mo), ds = [.ref s] ∧ StoreM a T m s M ∧ m.log.length ≤ 10000 ∧ m.marks.length ≤ 10000 ∧ ∀ M', StoreM a T ((m.mark).lg "mark") s M' → P (.int ((m.marks.length : Int) + 1)) M'
def sp_Store_back (a : Ad) : ASp := fun ds M P _ => ∃ (s : Addr) (T : D) (m : Mo) (ms : List (List (Int × D))) (z : List (Int × D)), ds = [.ref s] ∧ StoreM a T m s M ∧ m.log.length ≤ 10000 ∧ m.marks = ms ++ [z] ∧
  ∀ M', StoreM a T (({ m with said := z, marks := ms } : Mo).lg "back") s M' → P .non M'
def sp_Store_standing (a : Ad) : ASp := fun ds M P _ => ∃ (s : Addr) (T : D) (m : Mo), ds = [.ref s] ∧ StoreM a T m s M ∧ ∀ q Ms M', StoreM a T m s Ms → M'.Perm ((q, MO.dK (saidK m.said)) :: Ms) → P (.ref q) M'
def sp_Store_log (a : Ad) : ASp := fun ds M P _ => ∃ (s : Addr) (T : D) (m : Mo), ds = [.ref s] ∧ StoreM a T m s M ∧ m.log.length ≤ 10000 ∧ ∀ M', StoreM a T m s M' → P (.tup m.log) M'
def sp_Store_talk (a : Ad) : ASp := fun ds M P _ => ∃ (s : Addr) (T : D) (m : Mo), ds = [.ref s] ∧ StoreM a T m s M ∧ ∀ M', StoreM a T m s M' → P T M'
def sp_Store_twin (a : Ad) : ASp := fun ds M P _ => ∃ (s : Addr) (T : D) (m : Mo), ds = [.ref s] ∧ StoreM a T m s M ∧ m.log.length ≤ 10000 ∧ m.marks.length ≤ 10000 ∧ ∀ s2 Ms Ms2 M', StoreM a T m s Ms → StoreM a T m s2 Ms2 → M'.Perm (Ms ++ Ms2) → P (.ref s2) M'
def sp_Store_len (a : Ad) : ASp := fun ds M P _ => ∃ (s : Addr) (T : D) (m : Mo), ds = [.ref s] ∧ StoreM a T m s M ∧ ∀ M', StoreM a T m s M' → P (.int (m.said.length : Int)) M'
def reprS (n : Nat) : Str := Txt.join "" ["Store(", Str.ofString (toString (n : Int)), " sayings)"]
def sp_Store_repr (a : Ad) : ASp := fun ds M P _ => ∃ (s : Addr) (T : D) (m : Mo), ds = [.ref s] ∧ StoreM a T m s M ∧ m.said.length ≤ 1000 ∧ ∀ M', StoreM a T m s M' → P (.str (reprS m.said.length)) M'
/-- sayings that == tells apart -/
def PyL (l : List D) (ps : List PyData) : Prop := Paired IsPy l ps ∧ SeqAt.shaped (.tuple ps) = true
def sp_Store_eq (a : Ad) : ASp := fun ds M P _ => ∃ (s : Addr) (sx : D) (S N : List Str) (t : Int) (m : Mo) (ps : List PyData), Tp sx S ∧ Small2 S ∧ Small2 N ∧ m.said.length ≤ 1000 ∧ PyL (m.said.map (·.2)) ps ∧
  ((ds = [.ref s, .ref s] ∧ StoreM a (TalkD a sx N t) m s M ∧ ∀ M', StoreM a (TalkD a sx N t) m s M' → P (.bl (PyData.eqv (.tuple ps) (.tuple ps))) M') ∨
   (∃ (s2 : Addr) (sy : D) (S' N' : List Str) (t' : Int) (m2 : Mo) (ps2 : List PyData) (Ms Ms2 : Mem), ds = [.ref s, .ref s2] ∧ Tp sy S' ∧ Small2 S' ∧ Small2 N' ∧ m2.said.length ≤ 1000 ∧ PyL (m2.said.map (·.2)) ps2 ∧ StoreM a (TalkD a sx N t) m s Ms ∧ StoreM a (TalkD a sy N' t') m2 s2 Ms2 ∧ M.Perm (Ms ++ Ms2) ∧
     ∀ Ms Ms2 M', StoreM a (TalkD a sx N t) m s Ms → StoreM a (TalkD a sy N' t') m2 s2 Ms2 → M'.Perm (Ms ++ Ms2) → P (.bl (decide (S = S' ∧ N = N' ∧ t = t') && PyData.eqv (.tuple ps) (.tuple ps2))) M') ∨
   (∃ y : D, ds = [.ref s, y] ∧ ((∃ i, y = .int i) ∨ ∃ z, y = .str z) ∧ StoreM a (TalkD a sx N t) m s M ∧ ∀ M', StoreM a (TalkD a sx N t) m s M' → P (.bl false) M') ∨
   (∃ (b : Addr) (kvs : List (Key × D)) (Ms : Mem), ds = [.ref s, .ref b] ∧ StoreM a (TalkD a sx N t) m s Ms ∧ M.Perm (Ms ++ [(b, .dK kvs)]) ∧ ∀ Ms M', StoreM a (TalkD a sx N t) m s Ms → M'.Perm (Ms ++ [(b, .dK kvs)]) → P (.bl false) M'))
/-! the law's draws -/
inductive TermR (S : List Str) : Nat → D → Prop
  | set {n : Nat} {s : Str} : s ∈ S → TermR S (n + 1) (.str s)
  | one {n : Nat} {w : Str} : w = "all" ∨ w = "none" → TermR S (n + 1) (.tup [.str w])
  | no {n : Nat} {t : D} : TermR S n t → TermR S (n + 1) (.tup [.str "not", t])
  | two {n : Nat} {w : Str} {t u : D} : w = "and" ∨ w = "or" ∨ w = "but" → TermR S n t → TermR S n u → TermR S (n + 1) (.tup [.str w, t, u])
inductive AddR (S N : List Str) : D → Prop
  | lot {i : Int} : -20 ≤ i → i ≤ 20 → AddR S N (.tup [.str "lot", .int i])
  | num {i : Int} {s : Str} : -20 ≤ i → i ≤ 20 → s ∈ N → AddR S N (.tup [.str "num", .int i, .str s])
  | size {i : Int} {t : D} : -20 ≤ i → i ≤ 20 → TermR S 3 t → AddR S N (.tup [.str "size", .int i, t])
def SumR (S N : List Str) (d : D) : Prop := ∃ l : List D, d = .tup l ∧ l.length ≤ 2 ∧ ∀ x ∈ l, AddR S N x
inductive LeafR (S N : List Str) : D → Prop
  | sums {w : Str} {x y : D} : w = "atmost" ∨ w = "equal" → SumR S N x → SumR S N y → LeafR S N (.tup [.str w, x, y])
  | parts {i : Int} {x : D} : 2 ≤ i → i ≤ 9 → SumR S N x → LeafR S N (.tup [.str "parts", .int i, x])
  | terms {w : Str} {x y : D} : w = "within" ∨ w = "same" → TermR S 3 x → TermR S 3 y → LeafR S N (.tup [.str w, x, y])
inductive SayR (S N : List Str) : Nat → D → Prop
  | leaf {n : Nat} {d : D} : LeafR S N d → SayR S N (n + 1) d
  | no {n : Nat} {d : D} : SayR S N n d → SayR S N (n + 1) (.tup [.str "not", d])
  | two {n : Nat} {w : Str} {d e : D} : w = "both" ∨ w = "either" → SayR S N n d → SayR S N n e → SayR S N (n + 1) (.tup [.str w, d, e])
def sp_l_signed (a : Ad) : ASp := fun ds M P _ => ∃ (p : Addr) (l : List D) (B t : Int), ds = [.ref p, .int t] ∧ M = [(p, .lst l)] ∧ Pool B l ∧ B < 990000 ∧ 1 ≤ t ∧ t ≤ 20 ∧
  ∀ (r : Int) (l' : List D), -t ≤ r → r ≤ t → Pool (B + 1) l' → P (.int r) [(p, .lst l')]
def sp_l_term (n : Nat) (a : Ad) : ASp := fun ds M P _ => ∃ (p : Addr) (l : List D) (B : Int) (S : List Str) (k : Nat), ds = [.ref p, .tup (S.map D.str), .int k] ∧ M = [(p, .lst l)] ∧ Pool B l ∧ B + 2 ^ (k + 1) < 990000 ∧ 1 ≤ k ∧ k ≤ n ∧ n ≤ 3 ∧ S.length ≤ 3 ∧
  ∀ (d : D) (l' : List D), TermR S k d → Pool (B + (2 ^ (k + 1) - 1)) l' → P d [(p, .lst l')]
def sp_l_sum (a : Ad) : ASp := fun ds M P _ => ∃ (p : Addr) (l : List D) (B : Int) (S N : List Str), ds = [.ref p, tonD S N, .int 2, .int 9] ∧ M = [(p, .lst l)] ∧ Pool B l ∧ B < 980000 ∧ Tongue S N ∧
  ∀ (d : D) (l' : List D), SumR S N d → Pool (B + 40) l' → P d [(p, .lst l')]
def sp_l_leaf (a : Ad) : ASp := fun ds M P _ => ∃ (p : Addr) (l : List D) (B : Int) (S N : List Str), ds = [.ref p, tonD S N, .int 2, .int 9] ∧ M = [(p, .lst l)] ∧ Pool B l ∧ B < 970000 ∧ Tongue S N ∧
  ∀ (d : D) (l' : List D), LeafR S N d → Pool (B + 100) l' → P d [(p, .lst l')]
def sp_l_saying (n : Nat) (a : Ad) : ASp := fun ds M P _ => ∃ (p : Addr) (l : List D) (B : Int) (S N : List Str) (k : Nat), ds = [.ref p, tonD S N, .int k, .int 2, .int 9] ∧ M = [(p, .lst l)] ∧ Pool B l ∧ B + 110 * 2 ^ k < 960000 ∧ Tongue S N ∧ 1 ≤ k ∧ k ≤ n ∧ n ≤ 4 ∧
  ∀ (d : D) (l' : List D), SayR S N k d → Pool (B + (110 * 2 ^ k - 1)) l' → P d [(p, .lst l')]
def sp_l_cases_many (n : Nat) (a : Ad) : ASp := fun ds M P _ => ∃ d : D, ds = [d] ∧ M = [] ∧ n ≤ 6 ∧ cnB n d = true ∧ P (.tup [.int (cnt d).1, .int (cnt d).2]) []
def sp_l_cases_all (a : Ad) : ASp := fun ds M P _ => ∃ l : List D, ds = [.lst l] ∧ M = [] ∧ l.length ≤ 1000 ∧ (∀ d ∈ l, cnB 6 d = true) ∧ P (.int (cntL l)) []
/-! the law's model of a store -/
def moD (n : Int) (d p l : Addr) : List (Key × D) := [(Sum.inr "said", .ref d), (Sum.inr "next", .int n), (Sum.inr "marks", .ref p), (Sum.inr "log", .ref l)]
def moC (m : Mo) (s d p l : Addr) (rs : List Addr) : Mem := (s, MO.dK (moD m.next d p l)) :: (d, MO.dK (saidK m.said)) :: (p, MO.lst (rs.map D.ref)) :: (l, MO.lst m.log) :: pilM rs m.marks
def ModM (m : Mo) (s : Addr) (M : Mem) : Prop := ∃ d p l rs, rs.length = m.marks.length ∧ M.Perm (moC m s d p l rs)
/-- what may stand together -/
def Stnd (S N : List Str) (l : List D) : Prop := l.length ≤ 12 ∧ (∀ d ∈ l, SayR S N 4 d) ∧ cntL l ≤ 32
def NumB (n : Int) (l : List (Int × D)) : Prop := (l.map (·.1)).Pairwise (· < ·) ∧ ∀ q ∈ l, 0 ≤ q.1 ∧ q.1 < n
def logW (d : D) : Prop := ∃ x y : Str, d = .tup [.str x, .str y] ∧ (x = "in" ∨ x = "out") ∧ (y = "say" ∨ y = "say_all" ∨ y = "drop" ∨ y = "mark" ∨ y = "back")
/-- a model behind so many turns -/
structure MdOk (S N : List Str) (j : Nat) (m : Mo) : Prop where
  num : NumB m.next m.said
  st : Stnd S N (m.said.map (·.2))
  pl : ∀ z ∈ m.marks, NumB m.next z ∧ Stnd S N (z.map (·.2))
  lg : ∀ d ∈ m.log, logW d
  ll : m.log.length ≤ 2 * j
  ml : m.marks.length ≤ j
  nx : 0 ≤ m.next ∧ m.next ≤ 4 * j
def sp_l_model (a : Ad) : ASp := fun ds M P _ => ds = [] ∧ M = [] ∧ ∀ s M', ModM ⟨[], 0, [], []⟩ s M' → P (.ref s) M'
def sp_l_look (a : Ad) : ASp := fun ds M P _ => ∃ (s o : Addr) (sx : D) (S N : List Str) (t : Int) (m : Mo) (j : Nat) (Ms Mm : Mem), ds = [.ref s, .ref o] ∧ Tp sx S ∧ Tongue S N ∧ MdOk S N j m ∧ j ≤ 1000 ∧ StoreM a (TalkD a sx N t) m s Ms ∧ ModM m o Mm ∧ M.Perm (Ms ++ Mm) ∧
  ∀ Ms Mm M', StoreM a (TalkD a sx N t) m s Ms → ModM m o Mm → M'.Perm (Ms ++ Mm) → P (.bl true) M'
def sp_l_copy (a : Ad) : ASp := fun ds M P _ => ∃ (o : Addr) (m : Mo), ds = [.ref o] ∧ ModM m o M ∧ m.marks.length ≤ 1000 ∧ ∀ o2 Mm Mm2 M', ModM m o Mm → ModM m o2 Mm2 → M'.Perm (Mm ++ Mm2) → P (.ref o2) M'
/-- stores and the law's models, side by side -/
structure SM where
  s : Addr
  o : Addr
  m : Mo
def SMs (a : Ad) (T : D) : List SM → Mem → Prop
  | [], M => M = []
  | q :: r, M => ∃ Ms Mm Mr, StoreM a T q.m q.s Ms ∧ ModM q.m q.o Mm ∧ SMs a T r Mr ∧ M.Perm (Ms ++ (Mm ++ Mr))
def sp_l_alike (a : Ad) : ASp := fun ds M P _ => ∃ (x y : Addr) (sx : D) (S N : List Str) (t : Int) (qs : List SM) (j : Nat) (Mq : Mem), ds = [.ref x, .ref y] ∧ Tp sx S ∧ Tongue S N ∧ j ≤ 1000 ∧ qs.length ≤ 3 ∧ (∀ q ∈ qs, MdOk S N j q.m) ∧ SMs a (TalkD a sx N t) qs Mq ∧ M.Perm ([(x, .lst (qs.map fun q => .ref q.s)), (y, .lst (qs.map fun q => .ref q.o))] ++ Mq) ∧
  ∀ Mq M', SMs a (TalkD a sx N t) qs Mq → M'.Perm ([(x, .lst (qs.map fun q => .ref q.s)), (y, .lst (qs.map fun q => .ref q.o))] ++ Mq) → P (.bl true) M'
def sp_l_claims (a : Ad) : ASp := fun ds M P _ => ∃ (p : Addr) (l : List D) (B : Int) (S N : List Str) (ys : List D) (n : Nat), ds = [.ref p, tonD S N, .lst ys, .int n] ∧ M = [(p, .lst l)] ∧ Pool B l ∧ B < 900000 ∧ Tongue S N ∧ Stnd S N ys ∧ n ≤ 4 ∧
  ∀ (zs : List D) (l' : List D), zs.length ≤ n → Stnd S N (ys ++ zs) → Pool (B + 7100) l' → P (.lst zs) [(p, .lst l')]
def sp_l_step (a : Ad) : ASp := fun ds M P _ => ∃ (p : Addr) (l : List D) (B : Int) (S N : List Str) (s o : Addr) (sx : D) (t : Int) (m : Mo) (j : Nat) (Ms Mm : Mem), ds = [.ref p, tonD S N, .ref s, .ref o] ∧ Pool B l ∧ B < 800000 ∧ Tongue S N ∧ Tp sx S ∧ MdOk S N j m ∧ j < 1000 ∧ StoreM a (TalkD a sx N t) m s Ms ∧ ModM m o Mm ∧ M.Perm ([(p, .lst l)] ++ (Ms ++ Mm)) ∧
  ∀ (m' : Mo) (l' : List D) Ms Mm M', MdOk S N (j + 1) m' → Pool (B + 7200) l' → StoreM a (TalkD a sx N t) m' s Ms → ModM m' o Mm → M'.Perm ([(p, .lst l')] ++ (Ms ++ Mm)) → P (.bl true) M'
def sp_l_turn (a : Ad) : ASp := fun ds M P _ => ∃ (p : Addr) (l : List D) (B : Int) (S N : List Str) (x y : Addr) (sx : D) (t : Int) (qs : List SM) (j : Nat) (Mq : Mem), ds = [.ref p, tonD S N, .ref x, .ref y] ∧ Pool B l ∧ B < 700000 ∧ Tongue S N ∧ Tp sx S ∧ j < 1000 ∧ 1 ≤ qs.length ∧ qs.length ≤ 3 ∧ (∀ q ∈ qs, MdOk S N j q.m) ∧ SMs a (TalkD a sx N t) qs Mq ∧
  M.Perm ([(p, .lst l), (x, .lst (qs.map fun q => .ref q.s)), (y, .lst (qs.map fun q => .ref q.o))] ++ Mq) ∧
  ∀ (qs' : List SM) (l' : List D) Mq M', 1 ≤ qs'.length → qs'.length ≤ 3 → (∀ q ∈ qs', MdOk S N (j + 1) q.m) → Pool (B + 7300) l' → SMs a (TalkD a sx N t) qs' Mq → M'.Perm ([(p, .lst l'), (x, .lst (qs'.map fun q => .ref q.s)), (y, .lst (qs'.map fun q => .ref q.o))] ++ Mq) → P (.bl true) M'
def sp_law (a : Ad) : ASp := fun ds M P _ => ∃ ns : List Int, ds = [.lsk (ns.map D.int)] ∧ M = [] ∧ P (.bl true) []

section
variable {P : Program} {w : World} {K : PySem.W.Frag} {mg : Str → Option Value} {base : Heap} {a : Ad}
--@ is_whole
abbrev s_is_whole : Stmt := topS 14
abbrev N_is_whole : List Str := ["thing", "least", "most"]
theorem sc_is_whole : FnScope N_is_whole ["thing", "least", "most"] (defScope s_is_whole) := ⟨rfl, rfl, rfl, by decide +kernel, rfl, by decide +kernel, by decide +kernel⟩
def t_is_whole (a : Ad) : AS :=
  (aSeq (aIfS (aOr (aNot (aTru (aCB IsiA (aCons (aVar 0) (aCons (aC (.ty "int")) aNil))))) (aTru (aCB IsiA (aCons (aVar 0) (aCons (aC (.ty "bool")) aNil)))))
  (aRet (aC (.bl false)))
  aNext)
  (aSeq (aIfS (aAnd (aB (aBin IsNotA (aVar 1) (aC .non))) (aB (aBin LtA (aVar 0) (aVar 1))))
  (aRet (aC (.bl false)))
  aNext)
  (aRet (aOrV (aBin IsA (aVar 2) (aC .non)) (aBin LeA (aVar 0) (aVar 2))))))
theorem den_is_whole (F : Fx P w K mg a) 
    {f : Addr} {cdv : Value} {A : Around} {outer : List Env} {s : Shared} {H : Hp} {E : XK} (hr : Room 0 (A.deeper (envOfC "is_whole" (defScope s_is_whole) s.heap.objs.size f cdv))) :
    DenB (cxOf (L2.CX P w) P w K mg base N_is_whole "is_whole" (defScope s_is_whole) f cdv A outer s H E) (defBody s_is_whole) (t_is_whole a) :=
  (db_cons (ds_if (DenW.t (dw_or (dt_not (dt_tru (de_cb okc_isi F.b_isinstance boot_isinstance (da_cons (de_var 0) (da_cons (de_bltn (d := .ty "int") (v := .ty "int") F.b_int boot_int rfl) da_nil))))) (dw_or1 (dt_tru (de_cb okc_isi F.b_isinstance boot_isinstance (da_cons (de_var 0) (da_cons (de_bltn (d := .ty "bool") (v := .ty "bool") F.b_bool boot_bool rfl) da_nil))))))) (db_one (ds_ret de_bl)) db_nil)
  (db_cons (ds_if (DenW.t (dw_and (dt_cmp ok_isnot (de_var 1) de_non) (dw_and1 (dt_cmp ok_lt (de_var 0) (de_var 1))))) (db_one (ds_ret de_bl)) db_nil)
  (db_one (ds_ret (de_or (de_cmp ok_is (de_var 2) de_non) (de_one (de_cmp ok_le (de_var 0) (de_var 2))))))))
--@ is_name
abbrev s_is_name : Stmt := topS 15
abbrev N_is_name : List Str := ["thing", "letter"]
theorem sc_is_name : FnScope N_is_name ["thing"] (defScope s_is_name) := ⟨rfl, rfl, rfl, by decide +kernel, rfl, by decide +kernel, by decide +kernel⟩
def t_is_name (a : Ad) : AS :=
  (aSeq (aIfS (aOr (aNot (aTru (aCB IsiA (aCons (aVar 0) (aCons (aC (.ty "str")) aNil))))) (aNot (aB (aChain LeA LeA (aC (.int 1)) (aCB LenA (aCons (aVar 0) aNil)) (aC (.int 8))))))
  (aRet (aC (.bl false)))
  aNext)
  (aRet (aCB AllA (aCons (aLcL [1] (iStrA (aVar 0)) (gNameA 1) aYes (aBin InA (aVar 1) (aC (.str "abcdefghijklmnopqrstuvwxyz"))) rFro) aNil))))
theorem den_is_name (F : Fx P w K mg a) 
    {f : Addr} {cdv : Value} {A : Around} {outer : List Env} {s : Shared} {H : Hp} {E : XK} (hr : Room 0 (A.deeper (envOfC "is_name" (defScope s_is_name) s.heap.objs.size f cdv))) :
    DenB (cxOf (L2.CX P w) P w K mg base N_is_name "is_name" (defScope s_is_name) f cdv A outer s H E) (defBody s_is_name) (t_is_name a) :=
  (db_cons (ds_if (DenW.t (dw_or (dt_not (dt_tru (de_cb okc_isi F.b_isinstance boot_isinstance (da_cons (de_var 0) (da_cons (de_bltn (d := .ty "str") (v := .ty "str") F.b_str boot_str rfl) da_nil))))) (dw_or1 (dt_not (dt_chain ok_le ok_le de_int (de_cb okc_len F.b_len boot_len (da_cons (de_var 0) da_nil)) (de_gint F.c_LONGEST)))))) (db_one (ds_ret de_bl)) db_nil)
  (db_one (ds_ret (de_cb (okc_all rfl) F.b_all boot_all (da_cons (de_lc (own := [("letter", 1)]) false rfl rfl sc_is_name.nd (blkOk_by (own := [("letter", 1)]) (N := N_is_name) (sc := defScope s_is_name) (by decide +kernel)) (di_str (de_var 0)) (fun _ _ _ _ _ => (dg_name 1 sc_is_name.nd)) (fun _ _ _ _ _ => dts_nil) (fun _ _ _ _ _ => (de_cmp ok_in (de_var 1) (de_gstr F.c_LETTERS)))) da_nil)))))
--@ are_names
abbrev s_are_names : Stmt := topS 16
abbrev N_are_names : List Str := ["thing", "many", "one", "other", "name"]
theorem sc_are_names : FnScope N_are_names ["thing", "many"] (defScope s_are_names) := ⟨rfl, rfl, rfl, by decide +kernel, rfl, by decide +kernel, by decide +kernel⟩
def t_are_names (a : Ad) : AS :=
  (aSeq (aIfS (aOr (aNot (aTru (aCB IsiA (aCons (aWk (aVar 0)) (aCons (aC (.ty "tuple")) aNil))))) (aOr (aB (aBin GtA (aCB LenA (aCons (aWk (aVar 0)) aNil)) (aVar 1))) (aNot (aTru (aCB AllA (aCons (aLcL [4] (iTupA (aWk (aVar 0))) (gNameA 4) aYes (aCall (sp_is_name a) (fun ds _ => ds) 1 (aCons (aVar 4) aNil)) rFro) aNil))))))
  (aRet (aC (.bl false)))
  aNext)
  (aRet (aCB AllA (aCons (aLcL [2, 3] (iZipD (aCons (aWk (aVar 0)) (aCons (aSl (aWk (aVar 0)) (aPart (aC (.int 1))) aNoPart) aNil))) (gTupA 2 (gConsA (gNameA 2) (gConsA (gNameA 3) gNilA))) aYes (aBin LtA (aVar 2) (aVar 3)) rFro) aNil))))
theorem den_are_names (F : Fx P w K mg a) 
    (h_is_name : Fn1 P w K mg base "is_name" 1 [] 1 0 (fun ds _ => ds) (sp_is_name a))
    {f : Addr} {cdv : Value} {A : Around} {outer : List Env} {s : Shared} {H : Hp} {E : XK} (hr : Room 1 (A.deeper (envOfC "are_names" (defScope s_are_names) s.heap.objs.size f cdv))) :
    DenB (cxOf (L2.CX P w) P w K mg base N_are_names "are_names" (defScope s_are_names) f cdv A outer s H E) (defBody s_are_names) (t_are_names a) :=
  (db_cons (ds_if (DenW.t (dw_or (dt_not (dt_tru (de_cb okc_isi F.b_isinstance boot_isinstance (da_cons (de_wk (de_var 0)) (da_cons (de_bltn (d := .ty "tuple") (v := .ty "tuple") F.b_tuple boot_tuple rfl) da_nil))))) (dw_or (dt_cmp ok_gt (de_cb okc_len F.b_len boot_len (da_cons (de_wk (de_var 0)) da_nil)) (de_var 1)) (dw_or1 (dt_not (dt_tru (de_cb (okc_all rfl) F.b_all boot_all (da_cons (de_lc (own := [("name", 4)]) false rfl rfl sc_are_names.nd (blkOk_by (own := [("name", 4)]) (N := N_are_names) (sc := defScope s_are_names) (by decide +kernel)) (di_tup (de_wk (de_var 0))) (fun _ _ _ _ _ => (dg_name 4 sc_are_names.nd)) (fun _ _ _ _ _ => dts_nil) (fun _ _ _ _ _ => (de_f h_is_name (hr.mono (by decide)) (da_cons (de_var 4) da_nil)))) da_nil)))))))) (db_one (ds_ret de_bl)) db_nil)
  (db_one (ds_ret (de_cb (okc_all rfl) F.b_all boot_all (da_cons (de_lc (own := [("one", 2), ("other", 3)]) false rfl rfl sc_are_names.nd (blkOk_by (own := [("one", 2), ("other", 3)]) (N := N_are_names) (sc := defScope s_are_names) (by decide +kernel)) (di_zip F.b_zip (da_cons (de_wk (de_var 0)) (da_cons (de_sl (de_wk (de_var 0)) (do_some de_int) do_none) da_nil))) (fun _ _ _ _ _ => (dg_tup rfl (dgs_cons (dg_name 2 sc_are_names.nd) (dgs_cons (dg_name 3 sc_are_names.nd) dgs_nil)))) (fun _ _ _ _ _ => dts_nil) (fun _ _ _ _ _ => (de_cmp ok_lt (de_var 2) (de_var 3)))) da_nil)))))
--@ Talk.__init__
abbrev s_Talk_init : Stmt := inClass (topS 43) 0
abbrev N_Talk_init : List Str := ["self", "sets", "numbers", "most", "name"]
theorem sc_Talk_init : FnScope N_Talk_init ["self", "sets", "numbers", "most"] (defScope s_Talk_init) := ⟨rfl, rfl, rfl, by decide +kernel, rfl, by decide +kernel, by decide +kernel⟩
def t_Talk_init (a : Ad) : AS :=
  (aSeq (aIfS (aOr (aNot (aTru (aCall (sp_are_names a) (fun ds _ => ds) 2 (aCons (aVar 1) (aCons (aC (.int 3)) aNil))))) (aNot (aTru (aCall (sp_are_names a) (fun ds _ => ds) 2 (aCons (aVar 2) (aCons (aC (.int 2)) aNil))))))
  (aRaise ⟨a.NoTalk, none⟩)
  aNext)
  (aSeq (aIfS (aOr (aTru (aCB AnyA (aCons (aLcL [4] (iTupA (aVar 2)) (gNameA 4) aYes (aBin InA (aVar 4) (aVar 1)) rFro) aNil))) (aNot (aTru (aCallK (sp_is_whole a) (fun ds es => ds ++ es ++ [.non]) 1 1 (aCons (aVar 3) aNil) (aCons (aC (.int 1)) aNil)))))
  (aRaise ⟨a.NoTalk, none⟩)
  aNext)
  (aSeq (aSetF a.Talk "set_names" (aVar 0) (aVar 1))
  (aSeq (aSetF a.Talk "number_names" (aVar 0) (aVar 2))
  (aSetF a.Talk "top" (aVar 0) (aVar 3))))))
theorem den_Talk_init (F : Fx P w K mg a) 
    (h_are_names : Fn1 P w K mg base "are_names" 2 [] 2 0 (fun ds _ => ds) (sp_are_names a))
    (h_is_whole_l : Fn1 P w K mg base "is_whole" 1 ["least"] 1 1 (fun ds es => ds ++ es ++ [.non]) (sp_is_whole a))
    {f : Addr} {cdv : Value} {A : Around} {outer : List Env} {s : Shared} {H : Hp} {E : XK} (hr : Room 2 (A.deeper (envOfC "Talk.__init__" (defScope s_Talk_init) s.heap.objs.size f cdv))) :
    DenB (cxOf (L2.CX P w) P w K mg base N_Talk_init "Talk.__init__" (defScope s_Talk_init) f cdv A outer s H E) (defBody s_Talk_init) (t_Talk_init a) :=
  (db_cons (ds_if (DenW.t (dw_or (dt_not (dt_tru (de_f h_are_names (hr.mono (by decide)) (da_cons (de_var 1) (da_cons (de_gint F.c_MOST_SETS) da_nil))))) (dw_or1 (dt_not (dt_tru (de_f h_are_names (hr.mono (by decide)) (da_cons (de_var 2) (da_cons (de_gint F.c_MOST_NUMBERS) da_nil)))))))) (db_one (ds_raise rfl PySem.F.excBase_ValueError F.x_NoTalk F.g_NoTalk F.p_NoTalk (raises_own F.e_NoTalk F.t_NoTalk))) db_nil)
  (db_cons (ds_if (DenW.t (dw_or (dt_tru (de_cb (okc_any rfl) F.b_any boot_any (da_cons (de_lc (own := [("name", 4)]) false rfl rfl sc_Talk_init.nd (blkOk_by (own := [("name", 4)]) (N := N_Talk_init) (sc := defScope s_Talk_init) (by decide +kernel)) (di_tup (de_var 2)) (fun _ _ _ _ _ => (dg_name 4 sc_Talk_init.nd)) (fun _ _ _ _ _ => dts_nil) (fun _ _ _ _ _ => (de_cmp ok_in (de_var 4) (de_var 1)))) da_nil))) (dw_or1 (dt_not (dt_tru (de_fk h_is_whole_l (hr.mono (by decide)) (da_cons (de_var 3) da_nil) (dk_cons de_int dk_nil))))))) (db_one (ds_raise rfl PySem.F.excBase_ValueError F.x_NoTalk F.g_NoTalk F.p_NoTalk (raises_own F.e_NoTalk F.t_NoTalk))) db_nil)
  (db_cons (ds_fld F.k_Talk F.n_Talk_set_names (de_var 0) (de_var 1))
  (db_cons (ds_fld F.k_Talk F.n_Talk_number_names (de_var 0) (de_var 2))
  (db_one (ds_fld F.k_Talk F.n_Talk_top (de_var 0) (de_var 3)))))))
--@ Talk.sets
abbrev s_Talk_sets : Stmt := inClass (topS 43) 1
abbrev N_Talk_sets : List Str := ["self"]
theorem sc_Talk_sets : FnScope N_Talk_sets ["self"] (defScope s_Talk_sets) := ⟨rfl, rfl, rfl, by decide +kernel, rfl, by decide +kernel, by decide +kernel⟩
def t_Talk_sets (a : Ad) : AS :=
  (aRet (aFld a.Talk "set_names" (aVar 0)))
theorem den_Talk_sets (F : Fx P w K mg a) 
    {f : Addr} {cdv : Value} {A : Around} {outer : List Env} {s : Shared} {H : Hp} {E : XK} (hr : Room 0 (A.deeper (envOfC "Talk.sets" (defScope s_Talk_sets) s.heap.objs.size f cdv))) :
    DenB (cxOf (L2.CX P w) P w K mg base N_Talk_sets "Talk.sets" (defScope s_Talk_sets) f cdv A outer s H E) (defBody s_Talk_sets) (t_Talk_sets a) :=
  (db_one (ds_ret (de_fld F.k_Talk F.n_Talk_set_names (de_var 0))))
--@ Talk.numbers
abbrev s_Talk_numbers : Stmt := inClass (topS 43) 2
abbrev N_Talk_numbers : List Str := ["self"]
theorem sc_Talk_numbers : FnScope N_Talk_numbers ["self"] (defScope s_Talk_numbers) := ⟨rfl, rfl, rfl, by decide +kernel, rfl, by decide +kernel, by decide +kernel⟩
def t_Talk_numbers (a : Ad) : AS :=
  (aRet (aFld a.Talk "number_names" (aVar 0)))
theorem den_Talk_numbers (F : Fx P w K mg a) 
    {f : Addr} {cdv : Value} {A : Around} {outer : List Env} {s : Shared} {H : Hp} {E : XK} (hr : Room 0 (A.deeper (envOfC "Talk.numbers" (defScope s_Talk_numbers) s.heap.objs.size f cdv))) :
    DenB (cxOf (L2.CX P w) P w K mg base N_Talk_numbers "Talk.numbers" (defScope s_Talk_numbers) f cdv A outer s H E) (defBody s_Talk_numbers) (t_Talk_numbers a) :=
  (db_one (ds_ret (de_fld F.k_Talk F.n_Talk_number_names (de_var 0))))
--@ Talk.__eq__
abbrev s_Talk_eq : Stmt := inClass (topS 43) 10
abbrev N_Talk_eq : List Str := ["self", "other", "one"]
theorem sc_Talk_eq : FnScope N_Talk_eq ["self", "other"] (defScope s_Talk_eq) := ⟨rfl, rfl, rfl, by decide +kernel, rfl, by decide +kernel, by decide +kernel⟩
def t_Talk_eq (a : Ad) : AS :=
  (aSeq (aIfS (aNot (aTru (aCB (IsiOwnA a.Talk) (aCons (aVar 1) (aCons (aC (.ref a.Talk)) aNil)))))
  (aRet (aC (.bl false)))
  aNext)
  (aSeq (aAsg (aTup (aCons (aWk (aFld a.Talk "set_names" (aVar 0))) (aCons (aWk (aFld a.Talk "number_names" (aVar 0))) (aCons (aFld a.Talk "top" (aVar 0)) aNil)))) (gNameA 2))
  (aRet (aBin EqA (aVar 2) (aTup (aCons (aWk (aFld a.Talk "set_names" (aVar 1))) (aCons (aWk (aFld a.Talk "number_names" (aVar 1))) (aCons (aFld a.Talk "top" (aVar 1)) aNil))))))))
theorem den_Talk_eq (F : Fx P w K mg a) 
    {f : Addr} {cdv : Value} {A : Around} {outer : List Env} {s : Shared} {H : Hp} {E : XK} (hr : Room 0 (A.deeper (envOfC "Talk.__eq__" (defScope s_Talk_eq) s.heap.objs.size f cdv))) :
    DenB (cxOf (L2.CX P w) P w K mg base N_Talk_eq "Talk.__eq__" (defScope s_Talk_eq) f cdv A outer s H E) (defBody s_Talk_eq) (t_Talk_eq a) :=
  (db_cons (ds_if (dt_not (dt_tru (de_cb (okc_isiOwn F.oi_Talk) F.b_isinstance boot_isinstance (da_cons (de_var 1) (da_cons (de_glob (d := .ref a.Talk) (v := .ref a.Talk) F.g_Talk rfl) da_nil))))) (db_one (ds_ret de_bl)) db_nil)
  (db_cons (ds_set 2 sc_Talk_eq.nd (de_tup (da_cons (de_wk (de_fld F.k_Talk F.n_Talk_set_names (de_var 0))) (da_cons (de_wk (de_fld F.k_Talk F.n_Talk_number_names (de_var 0))) (da_cons (de_fld F.k_Talk F.n_Talk_top (de_var 0)) da_nil)))))
  (db_one (ds_ret (de_cmp (ok_eq hr.units) (de_var 2) (de_tup (da_cons (de_wk (de_fld F.k_Talk F.n_Talk_set_names (de_var 1))) (da_cons (de_wk (de_fld F.k_Talk F.n_Talk_number_names (de_var 1))) (da_cons (de_fld F.k_Talk F.n_Talk_top (de_var 1)) da_nil)))))))))
--@ parts_of
abbrev s_parts_of : Stmt := topS 21
abbrev N_parts_of : List Str := ["talk", "thing", "left", "sizes", "word", "kids", "kid"]
theorem sc_parts_of : FnScope N_parts_of ["talk", "thing", "left"] (defScope s_parts_of) := ⟨rfl, rfl, rfl, by decide +kernel, rfl, by decide +kernel, by decide +kernel⟩
def t_parts_of (n : Nat) (a : Ad) : AS :=
  (aSeq (aIfS (aB (aBin EqA (aVar 2) (aC (.int 0))))
  (aRet (aC (.int 0)))
  aNext)
  (aSeq (aIfS (aTru (aCB IsiA (aCons (aVar 1) (aCons (aC (.ty "str")) aNil))))
  (aRet (aIf (aB (aBin InA (aVar 1) (aMeth a.Talk "sets" (sp_Talk_sets a) (fun ds _ => ds) 1 0 (aVar 0) aNil aNil))) (aC (.int 1)) (aC (.int 0))))
  aNext)
  (aSeq (aIfS (aOr (aNot (aTru (aCB IsiA (aCons (aVar 1) (aCons (aC (.ty "tuple")) aNil))))) (aB (aBin EqNilTA (aVar 1) (aTup aNil))))
  (aRet (aC (.int 0)))
  aNext)
  (aSeq (aAsg (aVar 1) (gStarA 2 1 (gConsA (gNameA 4) (gConsA (gNameA 5) gNilA))))
  (aSeq (aIfS (aOr (aNot (aTru (aCB IsiA (aCons (aVar 4) (aCons (aC (.ty "str")) aNil))))) (aB (aBin NeA (aTabGet a.WORDS_terms tab_WORDS_terms (aC (.ref a.WORDS_terms)) (aVar 4)) (aCB LenA (aCons (aVar 5) aNil)))))
  (aRet (aC (.int 0)))
  aNext)
  (aSeq (aAsg (aLcL [6] (iLstA (aVar 5)) (gNameA 6) aYes (aCall (sp_parts_of n a) (fun ds _ => ds) 3 (aCons (aVar 0) (aCons (aVar 6) (aCons (aBin SubA (aVar 2) (aC (.int 1))) aNil)))) rFro) (gNameA 3))
  (aRet (aIf (aB (aBin InA (aC (.int 0)) (aVar 3))) (aC (.int 0)) (aBin AddA (aC (.int 1)) (aCB SumA (aCons (aVar 3) aNil)))))))))))
theorem den_parts_of (F : Fx P w K mg a) {n : Nat}
    (h_Talk_sets : Mt1 P w K mg base a.Talk "sets" 1 [] 1 0 (fun ds _ => ds) (sp_Talk_sets a))
    (h_parts_of : Fn1 P w K mg base "parts_of" (1 + n) [] 3 0 (fun ds _ => ds) (sp_parts_of n a))
    {f : Addr} {cdv : Value} {A : Around} {outer : List Env} {s : Shared} {H : Hp} {E : XK} (hr : Room (1 + n) (A.deeper (envOfC "parts_of" (defScope s_parts_of) s.heap.objs.size f cdv))) :
    DenB (cxOf (L2.CX P w) P w K mg base N_parts_of "parts_of" (defScope s_parts_of) f cdv A outer s H E) (defBody s_parts_of) (t_parts_of n a) :=
  (db_cons (ds_if (dt_cmp (ok_eq hr.units) (de_var 2) de_int) (db_one (ds_ret de_int)) db_nil)
  (db_cons (ds_if (dt_tru (de_cb okc_isi F.b_isinstance boot_isinstance (da_cons (de_var 1) (da_cons (de_bltn (d := .ty "str") (v := .ty "str") F.b_str boot_str rfl) da_nil)))) (db_one (ds_ret (de_if (dt_cmp ok_in (de_var 1) (de_m0 h_Talk_sets (hr.mono (by omega)) (de_var 0))) de_int de_int))) db_nil)
  (db_cons (ds_if (DenW.t (dw_or (dt_not (dt_tru (de_cb okc_isi F.b_isinstance boot_isinstance (da_cons (de_var 1) (da_cons (de_bltn (d := .ty "tuple") (v := .ty "tuple") F.b_tuple boot_tuple rfl) da_nil))))) (dw_or1 (dt_cmp (ok_eqNilT hr.units0) (de_var 1) (de_tup da_nil))))) (db_one (ds_ret de_int)) db_nil)
  (db_cons (ds_asg (de_var 1) (dg_star rfl (dgs_cons (dg_name 4 sc_parts_of.nd) (dgs_star (dg_name 5 sc_parts_of.nd) dgs_nil))))
  (db_cons (ds_if (DenW.t (dw_or (dt_not (dt_tru (de_cb okc_isi F.b_isinstance boot_isinstance (da_cons (de_var 4) (da_cons (de_bltn (d := .ty "str") (v := .ty "str") F.b_str boot_str rfl) da_nil))))) (dw_or1 (dt_cmp (ok_ne hr.units) (de_tabGet F.tb_WORDS_terms (de_glob (d := .ref a.WORDS_terms) (v := .ref a.WORDS_terms) F.g_WORDS_terms rfl) (de_var 4)) (de_cb okc_len F.b_len boot_len (da_cons (de_var 5) da_nil)))))) (db_one (ds_ret de_int)) db_nil)
  (db_cons (ds_setLc (own := [("kid", 6)]) false 3 rfl rfl sc_parts_of.nd (blkOk_by (own := [("kid", 6)]) (N := N_parts_of) (sc := defScope s_parts_of) (by decide +kernel)) (di_list (de_var 5)) (fun _ _ _ _ _ => (dg_name 6 sc_parts_of.nd)) (fun _ _ _ _ _ => dts_nil) (fun _ _ _ _ _ => (de_f h_parts_of (hr.mono (by omega)) (da_cons (de_var 0) (da_cons (de_var 6) (da_cons (de_bin ok_sub (de_var 2) de_int) da_nil))))) (sw_true rfl rfl rfl (by decide +kernel)))
  (db_one (ds_ret (de_if (dt_cmp ok_in de_int (de_var 3)) de_int (de_bin ok_add de_int (de_cb (okc_sum rfl) F.b_sum boot_sum (da_cons (de_var 3) da_nil))))))))))))
--@ is_term
abbrev s_is_term : Stmt := topS 22
abbrev N_is_term : List Str := ["talk", "thing"]
theorem sc_is_term : FnScope N_is_term ["talk", "thing"] (defScope s_is_term) := ⟨rfl, rfl, rfl, by decide +kernel, rfl, by decide +kernel, by decide +kernel⟩
def t_is_term (a : Ad) : AS :=
  (aRet (aChain LtA LeA (aC (.int 0)) (aCall (sp_parts_of 13 a) (fun ds _ => ds) 3 (aCons (aVar 0) (aCons (aVar 1) (aCons (aC (.int 12)) aNil)))) (aC (.int 100))))
theorem den_is_term (F : Fx P w K mg a) 
    (h_parts_of : Fn1 P w K mg base "parts_of" 14 [] 3 0 (fun ds _ => ds) (sp_parts_of 13 a))
    {f : Addr} {cdv : Value} {A : Around} {outer : List Env} {s : Shared} {H : Hp} {E : XK} (hr : Room 14 (A.deeper (envOfC "is_term" (defScope s_is_term) s.heap.objs.size f cdv))) :
    DenB (cxOf (L2.CX P w) P w K mg base N_is_term "is_term" (defScope s_is_term) f cdv A outer s H E) (defBody s_is_term) (t_is_term a) :=
  (db_one (ds_ret (de_chain ok_lt ok_le de_int (de_f h_parts_of (hr.mono (by decide)) (da_cons (de_var 0) (da_cons (de_var 1) (da_cons (de_gint F.c_DEEPEST) da_nil)))) (de_gint F.c_MOST_PARTS))))
--@ is_addend
abbrev s_is_addend : Stmt := topS 25
abbrev N_is_addend : List Str := ["talk", "thing"]
theorem sc_is_addend : FnScope N_is_addend ["talk", "thing"] (defScope s_is_addend) := ⟨rfl, rfl, rfl, by decide +kernel, rfl, by decide +kernel, by decide +kernel⟩
def t_is_addend (a : Ad) : AS :=
  (aSeq (aIfS (aOr (aNot (aTru (aCB IsiA (aCons (aVar 1) (aCons (aC (.ty "tuple")) aNil))))) (aB (aBin NotInA (aCB LenA (aCons (aVar 1) aNil)) (aTup (aCons (aC (.int 2)) (aCons (aC (.int 3)) aNil))))))
  (aRet (aC (.bl false)))
  aNext)
  (aSeq (aIfS (aOr (aNot (aTru (aCB IsiA (aCons (aBin IxA (aVar 1) (aC (.int 0))) (aCons (aC (.ty "str")) aNil))))) (aNot (aTru (aCall (sp_is_whole a) (fun ds es => ds ++ [.non, .non]) 1 (aCons (aBin IxA (aVar 1) (aC (.int 1))) aNil)))))
  (aRet (aC (.bl false)))
  aNext)
  (aSeq (aIfS (aB (aBin EqA (aCB LenA (aCons (aVar 1) aNil)) (aC (.int 2))))
  (aRet (aBin EqA (aBin IxA (aVar 1) (aC (.int 0))) (aC (.str "lot"))))
  aNext)
  (aSeq (aIfS (aB (aBin EqA (aBin IxA (aVar 1) (aC (.int 0))) (aC (.str "num"))))
  (aRet (aAndV (aCB IsiA (aCons (aBin IxA (aVar 1) (aC (.int 2))) (aCons (aC (.ty "str")) aNil))) (aBin InA (aBin IxA (aVar 1) (aC (.int 2))) (aMeth a.Talk "numbers" (sp_Talk_numbers a) (fun ds _ => ds) 1 0 (aVar 0) aNil aNil))))
  aNext)
  (aRet (aAndV (aBin EqA (aBin IxA (aVar 1) (aC (.int 0))) (aC (.str "size"))) (aCall (sp_is_term a) (fun ds _ => ds) 2 (aCons (aVar 0) (aCons (aBin IxA (aVar 1) (aC (.int 2))) aNil)))))))))
theorem den_is_addend (F : Fx P w K mg a) 
    (h_is_whole_n : Fn1 P w K mg base "is_whole" 1 [] 1 0 (fun ds es => ds ++ [.non, .non]) (sp_is_whole a))
    (h_Talk_numbers : Mt1 P w K mg base a.Talk "numbers" 1 [] 1 0 (fun ds _ => ds) (sp_Talk_numbers a))
    (h_is_term : Fn1 P w K mg base "is_term" 15 [] 2 0 (fun ds _ => ds) (sp_is_term a))
    {f : Addr} {cdv : Value} {A : Around} {outer : List Env} {s : Shared} {H : Hp} {E : XK} (hr : Room 15 (A.deeper (envOfC "is_addend" (defScope s_is_addend) s.heap.objs.size f cdv))) :
    DenB (cxOf (L2.CX P w) P w K mg base N_is_addend "is_addend" (defScope s_is_addend) f cdv A outer s H E) (defBody s_is_addend) (t_is_addend a) :=
  (db_cons (ds_if (DenW.t (dw_or (dt_not (dt_tru (de_cb okc_isi F.b_isinstance boot_isinstance (da_cons (de_var 1) (da_cons (de_bltn (d := .ty "tuple") (v := .ty "tuple") F.b_tuple boot_tuple rfl) da_nil))))) (dw_or1 (dt_cmp ok_notin (de_cb okc_len F.b_len boot_len (da_cons (de_var 1) da_nil)) (de_tup (da_cons de_int (da_cons de_int da_nil))))))) (db_one (ds_ret de_bl)) db_nil)
  (db_cons (ds_if (DenW.t (dw_or (dt_not (dt_tru (de_cb okc_isi F.b_isinstance boot_isinstance (da_cons (de_ix (de_var 1) de_int) (da_cons (de_bltn (d := .ty "str") (v := .ty "str") F.b_str boot_str rfl) da_nil))))) (dw_or1 (dt_not (dt_tru (de_f h_is_whole_n (hr.mono (by decide)) (da_cons (de_ix (de_var 1) de_int) da_nil))))))) (db_one (ds_ret de_bl)) db_nil)
  (db_cons (ds_if (dt_cmp (ok_eq hr.units) (de_cb okc_len F.b_len boot_len (da_cons (de_var 1) da_nil)) de_int) (db_one (ds_ret (de_cmp (ok_eq hr.units) (de_ix (de_var 1) de_int) de_str))) db_nil)
  (db_cons (ds_if (dt_cmp (ok_eq hr.units) (de_ix (de_var 1) de_int) de_str) (db_one (ds_ret (de_and (de_cb okc_isi F.b_isinstance boot_isinstance (da_cons (de_ix (de_var 1) de_int) (da_cons (de_bltn (d := .ty "str") (v := .ty "str") F.b_str boot_str rfl) da_nil))) (de_one (de_cmp ok_in (de_ix (de_var 1) de_int) (de_m0 h_Talk_numbers (hr.mono (by decide)) (de_var 0))))))) db_nil)
  (db_one (ds_ret (de_and (de_cmp (ok_eq hr.units) (de_ix (de_var 1) de_int) de_str) (de_one (de_f h_is_term (hr.mono (by decide)) (da_cons (de_var 0) (da_cons (de_ix (de_var 1) de_int) da_nil)))))))))))
--@ is_sum
abbrev s_is_sum : Stmt := topS 26
abbrev N_is_sum : List Str := ["talk", "thing", "addend"]
theorem sc_is_sum : FnScope N_is_sum ["talk", "thing"] (defScope s_is_sum) := ⟨rfl, rfl, rfl, by decide +kernel, rfl, by decide +kernel, by decide +kernel⟩
def t_is_sum (a : Ad) : AS :=
  (aSeq (aIfS (aOr (aNot (aTru (aCB IsiA (aCons (aVar 1) (aCons (aC (.ty "tuple")) aNil))))) (aB (aBin GtA (aCB LenA (aCons (aVar 1) aNil)) (aC (.int 12)))))
  (aRet (aC (.bl false)))
  aNext)
  (aRet (aCB AllA (aCons (aLcL [2] (iTupA (aVar 1)) (gNameA 2) aYes (aCall (sp_is_addend a) (fun ds _ => ds) 2 (aCons (aVar 0) (aCons (aVar 2) aNil))) rFro) aNil))))
theorem den_is_sum (F : Fx P w K mg a) 
    (h_is_addend : Fn1 P w K mg base "is_addend" 16 [] 2 0 (fun ds _ => ds) (sp_is_addend a))
    {f : Addr} {cdv : Value} {A : Around} {outer : List Env} {s : Shared} {H : Hp} {E : XK} (hr : Room 16 (A.deeper (envOfC "is_sum" (defScope s_is_sum) s.heap.objs.size f cdv))) :
    DenB (cxOf (L2.CX P w) P w K mg base N_is_sum "is_sum" (defScope s_is_sum) f cdv A outer s H E) (defBody s_is_sum) (t_is_sum a) :=
  (db_cons (ds_if (DenW.t (dw_or (dt_not (dt_tru (de_cb okc_isi F.b_isinstance boot_isinstance (da_cons (de_var 1) (da_cons (de_bltn (d := .ty "tuple") (v := .ty "tuple") F.b_tuple boot_tuple rfl) da_nil))))) (dw_or1 (dt_cmp ok_gt (de_cb okc_len F.b_len boot_len (da_cons (de_var 1) da_nil)) (de_gint F.c_ADDENDS))))) (db_one (ds_ret de_bl)) db_nil)
  (db_one (ds_ret (de_cb (okc_all rfl) F.b_all boot_all (da_cons (de_lc (own := [("addend", 2)]) false rfl rfl sc_is_sum.nd (blkOk_by (own := [("addend", 2)]) (N := N_is_sum) (sc := defScope s_is_sum) (by decide +kernel)) (di_tup (de_var 1)) (fun _ _ _ _ _ => (dg_name 2 sc_is_sum.nd)) (fun _ _ _ _ _ => dts_nil) (fun _ _ _ _ _ => (de_f h_is_addend (hr.mono (by decide)) (da_cons (de_var 0) (da_cons (de_var 2) da_nil))))) da_nil)))))
--@ counts_of
abbrev s_counts_of : Stmt := topS 28
abbrev N_counts_of : List Str := ["saying", "word", "one", "one_turned", "other", "other_turned", "parts", "so", "turned"]
theorem sc_counts_of : FnScope N_counts_of ["saying"] (defScope s_counts_of) := ⟨rfl, rfl, rfl, by decide +kernel, rfl, by decide +kernel, by decide +kernel⟩
def t_counts_of (n : Nat) (a : Ad) : AS :=
  (aSeq (aAsg (aVar 0) (gStarA 2 1 (gConsA (gNameA 1) (gConsA (gNameA 6) gNilA))))
  (aSeq (aIfS (aB (aBin EqA (aVar 1) (aC (.str "not"))))
  (aSeq (aAsg (aCall (sp_counts_of n a) (fun ds _ => ds) 1 (aCons (aBin IxA (aVar 6) (aC (.int 0))) aNil)) (gTupA 2 (gConsA (gNameA 7) (gConsA (gNameA 8) gNilA))))
  (aRet (aTup (aCons (aVar 8) (aCons (aVar 7) aNil)))))
  aNext)
  (aSeq (aIfS (aB (aBin NotInA (aVar 1) (aTup (aCons (aC (.str "both")) (aCons (aC (.str "either")) aNil)))))
  (aRet (aTup (aCons (aC (.int 1)) (aCons (aIf (aB (aBin EqA (aVar 1) (aC (.str "equal")))) (aC (.int 2)) (aC (.int 1))) aNil))))
  aNext)
  (aSeq (aAsg (aCall (sp_counts_of n a) (fun ds _ => ds) 1 (aCons (aBin IxA (aVar 6) (aC (.int 0))) aNil)) (gTupA 2 (gConsA (gNameA 2) (gConsA (gNameA 3) gNilA))))
  (aSeq (aAsg (aCall (sp_counts_of n a) (fun ds _ => ds) 1 (aCons (aBin IxA (aVar 6) (aC (.int 1))) aNil)) (gTupA 2 (gConsA (gNameA 4) (gConsA (gNameA 5) gNilA))))
  (aSeq (aIfS (aB (aBin EqA (aVar 1) (aC (.str "both"))))
  (aRet (aTup (aCons (aBin MulA (aVar 2) (aVar 4)) (aCons (aBin AddA (aVar 3) (aVar 5)) aNil))))
  aNext)
  (aRet (aTup (aCons (aBin AddA (aVar 2) (aVar 4)) (aCons (aBin MulA (aVar 3) (aVar 5)) aNil))))))))))
theorem den_counts_of (F : Fx P w K mg a) {n : Nat}
    (h_counts_of : Fn1 P w K mg base "counts_of" (0 + n) [] 1 0 (fun ds _ => ds) (sp_counts_of n a))
    {f : Addr} {cdv : Value} {A : Around} {outer : List Env} {s : Shared} {H : Hp} {E : XK} (hr : Room (0 + n) (A.deeper (envOfC "counts_of" (defScope s_counts_of) s.heap.objs.size f cdv))) :
    DenB (cxOf (L2.CX P w) P w K mg base N_counts_of "counts_of" (defScope s_counts_of) f cdv A outer s H E) (defBody s_counts_of) (t_counts_of n a) :=
  (db_cons (ds_asg (de_var 0) (dg_star rfl (dgs_cons (dg_name 1 sc_counts_of.nd) (dgs_star (dg_name 6 sc_counts_of.nd) dgs_nil))))
  (db_cons (ds_if (dt_cmp (ok_eq hr.units) (de_var 1) de_str) (db_cons (ds_asg (de_f h_counts_of (hr.mono (by omega)) (da_cons (de_ix (de_var 6) de_int) da_nil)) (dg_tup rfl (dgs_cons (dg_name 7 sc_counts_of.nd) (dgs_cons (dg_name 8 sc_counts_of.nd) dgs_nil))))
  (db_one (ds_ret (de_tup (da_cons (de_var 8) (da_cons (de_var 7) da_nil)))))) db_nil)
  (db_cons (ds_if (dt_cmp ok_notin (de_var 1) (de_tup (da_cons de_str (da_cons de_str da_nil)))) (db_one (ds_ret (de_tup (da_cons de_int (da_cons (de_if (dt_cmp (ok_eq hr.units) (de_var 1) de_str) de_int de_int) da_nil))))) db_nil)
  (db_cons (ds_asg (de_f h_counts_of (hr.mono (by omega)) (da_cons (de_ix (de_var 6) de_int) da_nil)) (dg_tup rfl (dgs_cons (dg_name 2 sc_counts_of.nd) (dgs_cons (dg_name 3 sc_counts_of.nd) dgs_nil))))
  (db_cons (ds_asg (de_f h_counts_of (hr.mono (by omega)) (da_cons (de_ix (de_var 6) de_int) da_nil)) (dg_tup rfl (dgs_cons (dg_name 4 sc_counts_of.nd) (dgs_cons (dg_name 5 sc_counts_of.nd) dgs_nil))))
  (db_cons (ds_if (dt_cmp (ok_eq hr.units) (de_var 1) de_str) (db_one (ds_ret (de_tup (da_cons (de_bin ok_mul (de_var 2) (de_var 4)) (da_cons (de_bin ok_add (de_var 3) (de_var 5)) da_nil))))) db_nil)
  (db_one (ds_ret (de_tup (da_cons (de_bin ok_add (de_var 2) (de_var 4)) (da_cons (de_bin ok_mul (de_var 3) (de_var 5)) da_nil)))))))))))
--@ cases_many
abbrev s_cases_many : Stmt := topS 29
abbrev N_cases_many : List Str := ["sayings", "turned", "saying", "so", "not_so", "one", "one_turned"]
theorem sc_cases_many : FnScope N_cases_many ["sayings", "turned"] (defScope s_cases_many) := ⟨rfl, rfl, rfl, by decide +kernel, rfl, by decide +kernel, by decide +kernel⟩
def t_cases_many (a : Ad) : AS :=
  (aSeq (aAsg (aTup (aCons (aC (.int 1)) (aCons (aC (.int 0)) aNil))) (gTupA 2 (gConsA (gNameA 3) (gConsA (gNameA 4) gNilA))))
  (aSeq (aForC (iSeqA (aVar 0)) (gNameA 2)
  (aSeq (aAsg (aCall (sp_counts_of 6 a) (fun ds _ => ds) 1 (aCons (aVar 2) aNil)) (gTupA 2 (gConsA (gNameA 5) (gConsA (gNameA 6) gNilA))))
  (aPar 3 4 (aCons (aBin MulA (aVar 3) (aVar 5)) (aCons (aBin AddA (aVar 4) (aVar 6)) aNil)))))
  (aRet (aIf (aTru (aVar 1)) (aVar 4) (aVar 3)))))
theorem den_cases_many (F : Fx P w K mg a) 
    (h_counts_of : Fn1 P w K mg base "counts_of" 6 [] 1 0 (fun ds _ => ds) (sp_counts_of 6 a))
    {f : Addr} {cdv : Value} {A : Around} {outer : List Env} {s : Shared} {H : Hp} {E : XK} (hr : Room 6 (A.deeper (envOfC "cases_many" (defScope s_cases_many) s.heap.objs.size f cdv))) :
    DenB (cxOf (L2.CX P w) P w K mg base N_cases_many "cases_many" (defScope s_cases_many) f cdv A outer s H E) (defBody s_cases_many) (t_cases_many a) :=
  (db_cons (ds_asg (de_tup (da_cons de_int (da_cons de_int da_nil))) (dg_tup rfl (dgs_cons (dg_name 3 sc_cases_many.nd) (dgs_cons (dg_name 4 sc_cases_many.nd) dgs_nil))))
  (db_cons (ds_forC (passes_of rfl) rfl (di_seq (de_var 0)) (dg_name 2 sc_cases_many.nd) (db_cons (ds_asg (de_f h_counts_of (hr.mono (by decide)) (da_cons (de_var 2) da_nil)) (dg_tup rfl (dgs_cons (dg_name 5 sc_cases_many.nd) (dgs_cons (dg_name 6 sc_cases_many.nd) dgs_nil))))
  (db_one (ds_par (i := 3) (j := 4) rfl sc_cases_many.nd (da_cons (de_bin ok_mul (de_var 3) (de_var 5)) (da_cons (de_bin ok_add (de_var 4) (de_var 6)) da_nil))))))
  (db_one (ds_ret (de_if (dt_tru (de_var 1)) (de_var 4) (de_var 3))))))
--@ is_plain
abbrev s_is_plain : Stmt := topS 34
abbrev N_is_plain : List Str := ["talk", "word", "parts", "one", "other"]
theorem sc_is_plain : FnScope N_is_plain ["talk", "word", "parts"] (defScope s_is_plain) := ⟨rfl, rfl, rfl, by decide +kernel, rfl, by decide +kernel, by decide +kernel⟩
def t_is_plain (a : Ad) : AS :=
  (aSeq (aIfS (aB (aBin NeA (aCB LenA (aCons (aVar 2) aNil)) (aC (.int 2))))
  (aRet (aC (.bl false)))
  aNext)
  (aSeq (aAsg (aVar 2) (gLstA 2 (gConsA (gNameA 3) (gConsA (gNameA 4) gNilA))))
  (aSeq (aIfS (aOr (aB (aBin EqA (aVar 1) (aC (.str "within")))) (aB (aBin EqA (aVar 1) (aC (.str "same")))))
  (aRet (aAndV (aCall (sp_is_term a) (fun ds _ => ds) 2 (aCons (aVar 0) (aCons (aVar 3) aNil))) (aCall (sp_is_term a) (fun ds _ => ds) 2 (aCons (aVar 0) (aCons (aVar 4) aNil)))))
  aNext)
  (aSeq (aIfS (aB (aBin EqA (aVar 1) (aC (.str "parts"))))
  (aRet (aAndV (aCallK (sp_is_whole a) (fun ds es => ds ++ es ++ [.non]) 1 1 (aCons (aVar 3) aNil) (aCons (aC (.int 2)) aNil)) (aCall (sp_is_sum a) (fun ds _ => ds) 2 (aCons (aVar 0) (aCons (aVar 4) aNil)))))
  aNext)
  (aSeq (aIfS (aOr (aB (aBin EqA (aVar 1) (aC (.str "atmost")))) (aB (aBin EqA (aVar 1) (aC (.str "equal")))))
  (aRet (aAndV (aCall (sp_is_sum a) (fun ds _ => ds) 2 (aCons (aVar 0) (aCons (aVar 3) aNil))) (aCall (sp_is_sum a) (fun ds _ => ds) 2 (aCons (aVar 0) (aCons (aVar 4) aNil)))))
  aNext)
  (aRet (aC (.bl false))))))))
theorem den_is_plain (F : Fx P w K mg a) 
    (h_is_term : Fn1 P w K mg base "is_term" 15 [] 2 0 (fun ds _ => ds) (sp_is_term a))
    (h_is_whole_l : Fn1 P w K mg base "is_whole" 1 ["least"] 1 1 (fun ds es => ds ++ es ++ [.non]) (sp_is_whole a))
    (h_is_sum : Fn1 P w K mg base "is_sum" 17 [] 2 0 (fun ds _ => ds) (sp_is_sum a))
    {f : Addr} {cdv : Value} {A : Around} {outer : List Env} {s : Shared} {H : Hp} {E : XK} (hr : Room 17 (A.deeper (envOfC "is_plain" (defScope s_is_plain) s.heap.objs.size f cdv))) :
    DenB (cxOf (L2.CX P w) P w K mg base N_is_plain "is_plain" (defScope s_is_plain) f cdv A outer s H E) (defBody s_is_plain) (t_is_plain a) :=
  (db_cons (ds_if (dt_cmp (ok_ne hr.units) (de_cb okc_len F.b_len boot_len (da_cons (de_var 2) da_nil)) de_int) (db_one (ds_ret de_bl)) db_nil)
  (db_cons (ds_asg (de_var 2) (dg_lst rfl (dgs_cons (dg_name 3 sc_is_plain.nd) (dgs_cons (dg_name 4 sc_is_plain.nd) dgs_nil))))
  (db_cons (ds_if (DenW.t (dw_or (dt_cmp (ok_eq hr.units) (de_var 1) de_str) (dw_or1 (dt_cmp (ok_eq hr.units) (de_var 1) de_str)))) (db_one (ds_ret (de_and (de_f h_is_term (hr.mono (by decide)) (da_cons (de_var 0) (da_cons (de_var 3) da_nil))) (de_one (de_f h_is_term (hr.mono (by decide)) (da_cons (de_var 0) (da_cons (de_var 4) da_nil))))))) db_nil)
  (db_cons (ds_if (dt_cmp (ok_eq hr.units) (de_var 1) de_str) (db_one (ds_ret (de_and (de_fk h_is_whole_l (hr.mono (by decide)) (da_cons (de_var 3) da_nil) (dk_cons de_int dk_nil)) (de_one (de_f h_is_sum (hr.mono (by decide)) (da_cons (de_var 0) (da_cons (de_var 4) da_nil))))))) db_nil)
  (db_cons (ds_if (DenW.t (dw_or (dt_cmp (ok_eq hr.units) (de_var 1) de_str) (dw_or1 (dt_cmp (ok_eq hr.units) (de_var 1) de_str)))) (db_one (ds_ret (de_and (de_f h_is_sum (hr.mono (by decide)) (da_cons (de_var 0) (da_cons (de_var 3) da_nil))) (de_one (de_f h_is_sum (hr.mono (by decide)) (da_cons (de_var 0) (da_cons (de_var 4) da_nil))))))) db_nil)
  (db_one (ds_ret de_bl)))))))
--@ words_in
abbrev s_words_in : Stmt := topS 35
abbrev N_words_in : List Str := ["talk", "thing", "deep", "found", "part", "word", "many", "parts"]
theorem sc_words_in : FnScope N_words_in ["talk", "thing", "deep"] (defScope s_words_in) := ⟨rfl, rfl, rfl, by decide +kernel, rfl, by decide +kernel, by decide +kernel⟩
def t_words_in (n : Nat) (a : Ad) : AS :=
  (aSeq (aIfS (aOr (aB (aBin LtA (aVar 2) (aC (.int 1)))) (aOr (aNot (aTru (aCB IsiA (aCons (aVar 1) (aCons (aC (.ty "tuple")) aNil))))) (aB (aBin LtA (aCB LenA (aCons (aVar 1) aNil)) (aC (.int 2))))))
  (aRet (aC (.int 0)))
  aNext)
  (aSeq (aAsg (aVar 1) (gStarA 2 1 (gConsA (gNameA 5) (gConsA (gNameA 7) gNilA))))
  (aSeq (aIfS (aNot (aTru (aCB IsiA (aCons (aVar 5) (aCons (aC (.ty "str")) aNil)))))
  (aRet (aC (.int 0)))
  aNext)
  (aSeq (aIfS (aB (aBin (NotInTabA a.JOINS tab_JOINS) (aVar 5) (aC (.ref a.JOINS))))
  (aRet (aCB IntA (aCons (aCall (sp_is_plain a) (fun ds _ => ds) 3 (aCons (aVar 0) (aCons (aVar 5) (aCons (aVar 7) aNil)))) aNil)))
  aNext)
  (aSeq (aIfS (aB (aBin NeA (aCB LenA (aCons (aVar 7) aNil)) (aBin (IxTabA a.JOINS tab_JOINS) (aC (.ref a.JOINS)) (aVar 5))))
  (aRet (aC (.int 0)))
  aNext)
  (aSeq (aAsg (aC (.int 1)) (gNameA 3))
  (aSeq (aFor (iLstA (aVar 7)) (gNameA 4)
  (aSeq (aAsg (aCall (sp_words_in n a) (fun ds _ => ds) 3 (aCons (aVar 0) (aCons (aVar 4) (aCons (aBin SubA (aVar 2) (aC (.int 1))) aNil)))) (gNameA 6))
  (aSeq (aIfS (aB (aBin EqA (aVar 6) (aC (.int 0))))
  (aRet (aC (.int 0)))
  aNext)
  (aAug 3 IAddA (aVar 6)))))
  (aRet (aVar 3)))))))))
theorem den_words_in (F : Fx P w K mg a) {n : Nat}
    (h_is_plain : Fn1 P w K mg base "is_plain" 18 [] 3 0 (fun ds _ => ds) (sp_is_plain a))
    (h_words_in : Fn1 P w K mg base "words_in" (18 + n) [] 3 0 (fun ds _ => ds) (sp_words_in n a))
    {f : Addr} {cdv : Value} {A : Around} {outer : List Env} {s : Shared} {H : Hp} {E : XK} (hr : Room (18 + n) (A.deeper (envOfC "words_in" (defScope s_words_in) s.heap.objs.size f cdv))) :
    DenB (cxOf (L2.CX P w) P w K mg base N_words_in "words_in" (defScope s_words_in) f cdv A outer s H E) (defBody s_words_in) (t_words_in n a) :=
  (db_cons (ds_if (DenW.t (dw_or (dt_cmp ok_lt (de_var 2) de_int) (dw_or (dt_not (dt_tru (de_cb okc_isi F.b_isinstance boot_isinstance (da_cons (de_var 1) (da_cons (de_bltn (d := .ty "tuple") (v := .ty "tuple") F.b_tuple boot_tuple rfl) da_nil))))) (dw_or1 (dt_cmp ok_lt (de_cb okc_len F.b_len boot_len (da_cons (de_var 1) da_nil)) de_int))))) (db_one (ds_ret de_int)) db_nil)
  (db_cons (ds_asg (de_var 1) (dg_star rfl (dgs_cons (dg_name 5 sc_words_in.nd) (dgs_star (dg_name 7 sc_words_in.nd) dgs_nil))))
  (db_cons (ds_if (dt_not (dt_tru (de_cb okc_isi F.b_isinstance boot_isinstance (da_cons (de_var 5) (da_cons (de_bltn (d := .ty "str") (v := .ty "str") F.b_str boot_str rfl) da_nil))))) (db_one (ds_ret de_int)) db_nil)
  (db_cons (ds_if (dt_cmp (ok_notinTab F.tb_JOINS) (de_var 5) (de_glob (d := .ref a.JOINS) (v := .ref a.JOINS) F.g_JOINS rfl)) (db_one (ds_ret (de_ct okc_int F.b_int boot_int (da_cons (de_f h_is_plain (hr.mono (by omega)) (da_cons (de_var 0) (da_cons (de_var 5) (da_cons (de_var 7) da_nil)))) da_nil)))) db_nil)
  (db_cons (ds_if (dt_cmp (ok_ne hr.units) (de_cb okc_len F.b_len boot_len (da_cons (de_var 7) da_nil)) (de_ixTab F.tb_JOINS (de_glob (d := .ref a.JOINS) (v := .ref a.JOINS) F.g_JOINS rfl) (de_var 5))) (db_one (ds_ret de_int)) db_nil)
  (db_cons (ds_set 3 sc_words_in.nd de_int)
  (db_cons (ds_for (passes_of rfl) rfl (di_list (de_var 7)) (dg_name 4 sc_words_in.nd) (db_cons (ds_set 6 sc_words_in.nd (de_f h_words_in (hr.mono (by omega)) (da_cons (de_var 0) (da_cons (de_var 4) (da_cons (de_bin ok_sub (de_var 2) de_int) da_nil)))))
  (db_cons (ds_if (dt_cmp (ok_eq hr.units) (de_var 6) de_int) (db_one (ds_ret de_int)) db_nil)
  (db_one (ds_augAdd 3 sc_words_in.nd (de_var 6))))))
  (db_one (ds_ret (de_var 3))))))))))
--@ is_saying
abbrev s_is_saying : Stmt := topS 36
abbrev N_is_saying : List Str := ["talk", "thing"]
theorem sc_is_saying : FnScope N_is_saying ["talk", "thing"] (defScope s_is_saying) := ⟨rfl, rfl, rfl, by decide +kernel, rfl, by decide +kernel, by decide +kernel⟩
def t_is_saying (a : Ad) : AS :=
  (aRet (aChain LeA LeA (aC (.int 1)) (aCall (sp_words_in 7 a) (fun ds _ => ds) 3 (aCons (aVar 0) (aCons (aVar 1) (aCons (aC (.int 6)) aNil)))) (aC (.int 24))))
theorem den_is_saying (F : Fx P w K mg a) 
    (h_words_in : Fn1 P w K mg base "words_in" 25 [] 3 0 (fun ds _ => ds) (sp_words_in 7 a))
    {f : Addr} {cdv : Value} {A : Around} {outer : List Env} {s : Shared} {H : Hp} {E : XK} (hr : Room 25 (A.deeper (envOfC "is_saying" (defScope s_is_saying) s.heap.objs.size f cdv))) :
    DenB (cxOf (L2.CX P w) P w K mg base N_is_saying "is_saying" (defScope s_is_saying) f cdv A outer s H E) (defBody s_is_saying) (t_is_saying a) :=
  (db_one (ds_ret (de_chain ok_le ok_le de_int (de_f h_words_in (hr.mono (by decide)) (da_cons (de_var 0) (da_cons (de_var 1) (da_cons (de_gint F.c_DEPTH) da_nil)))) (de_gint F.c_WORDS_sayings))))
--@ Store.__init__
abbrev s_Store_init : Stmt := inClass (topS 39) 0
abbrev N_Store_init : List Str := ["self", "talk"]
theorem sc_Store_init : FnScope N_Store_init ["self", "talk"] (defScope s_Store_init) := ⟨rfl, rfl, rfl, by decide +kernel, rfl, by decide +kernel, by decide +kernel⟩
def t_Store_init (a : Ad) : AS :=
  (aSeq (aSetF a.Store "spoken_in" (aVar 0) (aVar 1))
  (aSeq (aSetF a.Store "said" (aVar 0) aDicM)
  (aSeq (aSetF a.Store "spent" (aVar 0) (aC (.int 0)))
  (aSeq (aSetF a.Store "piles" (aVar 0) (aLstM aNil))
  (aSetF a.Store "laid" (aVar 0) (aLstM aNil))))))
theorem den_Store_init (F : Fx P w K mg a) 
    {f : Addr} {cdv : Value} {A : Around} {outer : List Env} {s : Shared} {H : Hp} {E : XK} (hr : Room 0 (A.deeper (envOfC "Store.__init__" (defScope s_Store_init) s.heap.objs.size f cdv))) :
    DenB (cxOf (L2.CX P w) P w K mg base N_Store_init "Store.__init__" (defScope s_Store_init) f cdv A outer s H E) (defBody s_Store_init) (t_Store_init a) :=
  (db_cons (ds_fld F.k_Store F.n_Store_spoken_in (de_var 0) (de_var 1))
  (db_cons (ds_fld F.k_Store F.n_Store_said (de_var 0) de_dicM)
  (db_cons (ds_fld F.k_Store F.n_Store_spent (de_var 0) de_int)
  (db_cons (ds_fld F.k_Store F.n_Store_piles (de_var 0) (de_lstM da_nil))
  (db_one (ds_fld F.k_Store F.n_Store_laid (de_var 0) (de_lstM da_nil)))))))
--@ Store.all_said
abbrev s_Store_all_said : Stmt := inClass (topS 39) 1
abbrev N_Store_all_said : List Str := ["self", "number", "saying"]
theorem sc_Store_all_said : FnScope N_Store_all_said ["self"] (defScope s_Store_all_said) := ⟨rfl, rfl, rfl, by decide +kernel, rfl, by decide +kernel, by decide +kernel⟩
def t_Store_all_said (a : Ad) : AS :=
  (aRet (aCB TupleA (aCons (aLock (aLcC [1, 2] (iItemsA (aFld a.Store "said" (aVar 0))) (gTupA 2 (gConsA (gNameA 1) (gConsA (gNameA 2) gNilA))) aYes (aVar 2) rFro)) aNil)))
theorem den_Store_all_said (F : Fx P w K mg a) 
    {f : Addr} {cdv : Value} {A : Around} {outer : List Env} {s : Shared} {H : Hp} {E : XK} (hr : Room 0 (A.deeper (envOfC "Store.all_said" (defScope s_Store_all_said) s.heap.objs.size f cdv))) :
    DenB (cxOf (L2.CX P w) P w K mg base N_Store_all_said "Store.all_said" (defScope s_Store_all_said) f cdv A outer s H E) (defBody s_Store_all_said) (t_Store_all_said a) :=
  (db_one (ds_ret (de_ct okc_tuple F.b_tuple boot_tuple (da_cons (de_lock (de_lcC (own := [("number", 1), ("saying", 2)]) false rfl rfl sc_Store_all_said.nd (blkOk_by (own := [("number", 1), ("saying", 2)]) (N := N_Store_all_said) (sc := defScope s_Store_all_said) (by decide +kernel)) (di_items (de_fld F.k_Store F.n_Store_said (de_var 0))) (fun _ _ _ _ _ => (dg_tup rfl (dgs_cons (dg_name 1 sc_Store_all_said.nd) (dgs_cons (dg_name 2 sc_Store_all_said.nd) dgs_nil)))) (fun _ _ _ _ _ => dts_nil) (fun _ _ _ _ _ => (de_var 2)))) da_nil))))
--@ Store.put_in
abbrev s_Store_put_in : Stmt := inClass (topS 39) 2
abbrev N_Store_put_in : List Str := ["self", "saying", "many", "number"]
theorem sc_Store_put_in : FnScope N_Store_put_in ["self", "saying"] (defScope s_Store_put_in) := ⟨rfl, rfl, rfl, by decide +kernel, rfl, by decide +kernel, by decide +kernel⟩
def t_Store_put_in (a : Ad) : AS :=
  (aSeq (aIfS (aNot (aTru (aCall (sp_is_saying a) (fun ds _ => ds) 2 (aCons (aFld a.Store "spoken_in" (aVar 0)) (aCons (aVar 1) aNil)))))
  aNeverS
  aNext)
  (aSeq (aIfS (aB (aBin EqA (aCB LenDA (aCons (aFld a.Store "said" (aVar 0)) aNil)) (aC (.int 12))))
  aNeverS
  aNext)
  (aSeq (aAsg (aCall (sp_cases_many a) (fun ds es => ds ++ [.bl false]) 1 (aCons (aBin AddA (aMeth a.Store "all_said" (sp_Store_all_said a) (fun ds _ => ds) 1 0 (aVar 0) aNil aNil) (aTup (aCons (aVar 1) aNil))) aNil)) (gNameA 2))
  (aSeq (aIfS (aB (aBin GtA (aVar 2) (aC (.int 32))))
  aNeverS
  aNext)
  (aSeq (aAsg (aFld a.Store "spent" (aVar 0)) (gNameA 3))
  (aSeq (aDPut (aFld a.Store "said" (aVar 0)) (aVar 3) (aVar 1))
  (aSeq (aSetF a.Store "spent" (aVar 0) (aBin AddA (aVar 3) (aC (.int 1))))
  (aRet (aVar 3)))))))))
theorem den_Store_put_in (F : Fx P w K mg a) 
    (h_is_saying : Fn1 P w K mg base "is_saying" 26 [] 2 0 (fun ds _ => ds) (sp_is_saying a))
    (h_Store_all_said : Mt1 P w K mg base a.Store "all_said" 1 [] 1 0 (fun ds _ => ds) (sp_Store_all_said a))
    (h_cases_many_d : Fn1 P w K mg base "cases_many" 7 [] 1 0 (fun ds es => ds ++ [.bl false]) (sp_cases_many a))
    {f : Addr} {cdv : Value} {A : Around} {outer : List Env} {s : Shared} {H : Hp} {E : XK} (hr : Room 26 (A.deeper (envOfC "Store.put_in" (defScope s_Store_put_in) s.heap.objs.size f cdv))) :
    DenB (cxOf (L2.CX P w) P w K mg base N_Store_put_in "Store.put_in" (defScope s_Store_put_in) f cdv A outer s H E) (defBody s_Store_put_in) (t_Store_put_in a) :=
  (db_cons (ds_if (dt_not (dt_tru (de_f h_is_saying (hr.mono (by decide)) (da_cons (de_fld F.k_Store F.n_Store_spoken_in (de_var 0)) (da_cons (de_var 1) da_nil))))) (db_one ds_never) db_nil)
  (db_cons (ds_if (dt_cmp (ok_eq hr.units) (de_cb okc_lenD F.b_len boot_len (da_cons (de_fld F.k_Store F.n_Store_said (de_var 0)) da_nil)) (de_gint F.c_STANDING)) (db_one ds_never) db_nil)
  (db_cons (ds_set 2 sc_Store_put_in.nd (de_f h_cases_many_d (hr.mono (by decide)) (da_cons (de_bin ok_add (de_m0 h_Store_all_said (hr.mono (by decide)) (de_var 0)) (de_tup (da_cons (de_var 1) da_nil))) da_nil)))
  (db_cons (ds_if (dt_cmp ok_gt (de_var 2) (de_gint F.c_MANY)) (db_one ds_never) db_nil)
  (db_cons (ds_set 3 sc_Store_put_in.nd (de_fld F.k_Store F.n_Store_spent (de_var 0)))
  (db_cons (ds_dput hr.units1 (de_fld F.k_Store F.n_Store_said (de_var 0)) (de_var 3) (de_var 1))
  (db_cons (ds_fld F.k_Store F.n_Store_spent (de_var 0) (de_bin ok_add (de_var 3) de_int))
  (db_one (ds_ret (de_var 3))))))))))
--@ Store.say
abbrev s_Store_say : Stmt := inClass (topS 39) 3
abbrev N_Store_say : List Str := ["self", "saying"]
theorem sc_Store_say : FnScope N_Store_say ["self", "saying"] (defScope s_Store_say) := ⟨rfl, rfl, rfl, by decide +kernel, rfl, by decide +kernel, by decide +kernel⟩
def t_Store_say (a : Ad) : AS :=
  (aSeq (aDrop (aBM "list" AppA (aFld a.Store "laid" (aVar 0)) (aCons (aTup (aCons (aC (.str "in")) (aCons (aC (.str "say")) aNil))) aNil)))
  (aTryRet aNext (aMeth a.Store "put_in" (sp_Store_put_in a) (fun ds _ => ds) 2 0 (aVar 0) (aCons (aVar 1) aNil) aNil)
  (aDrop (aBM "list" AppA (aFld a.Store "laid" (aVar 0)) (aCons (aTup (aCons (aC (.str "out")) (aCons (aC (.str "say")) aNil))) aNil))) aNeverS))
theorem den_Store_say (F : Fx P w K mg a) 
    (h_Store_put_in : Mt1 P w K mg base a.Store "put_in" 27 [] 2 0 (fun ds _ => ds) (sp_Store_put_in a))
    {f : Addr} {cdv : Value} {A : Around} {outer : List Env} {s : Shared} {H : Hp} {E : XK} (hr : Room 27 (A.deeper (envOfC "Store.say" (defScope s_Store_say) s.heap.objs.size f cdv))) :
    DenB (cxOf (L2.CX P w) P w K mg base N_Store_say "Store.say" (defScope s_Store_say) f cdv A outer s H E) (defBody s_Store_say) (t_Store_say a) :=
  (db_cons (ds_expr (de_bm PySem.F.plainAttrs_list PySem.F.slot_list_append PySem.F.type_list_append okm_append (de_fld F.k_Store F.n_Store_laid (de_var 0)) (da_cons (de_tup (da_cons de_str (da_cons de_str da_nil))) da_nil)))
  (db_one (ds_tryRet (fun pn xe hp => db_nil) (fun pn xe hp => (de_m h_Store_put_in (hr.mono (by decide)) (de_var 0) (da_cons (de_var 1) da_nil))) (db_one (ds_expr (de_bm PySem.F.plainAttrs_list PySem.F.slot_list_append PySem.F.type_list_append okm_append (de_fld F.k_Store F.n_Store_laid (de_var 0)) (da_cons (de_tup (da_cons de_str (da_cons de_str da_nil))) da_nil)))) (fun _ _ => db_never))))
--@ Store.say_all
abbrev s_Store_say_all : Stmt := inClass (topS 39) 4
abbrev N_Store_say_all : List Str := ["self", "sayings", "numbers", "kept", "spent", "saying"]
theorem sc_Store_say_all : FnScope N_Store_say_all ["self", "sayings"] (defScope s_Store_say_all) := ⟨rfl, rfl, rfl, by decide +kernel, rfl, by decide +kernel, by decide +kernel⟩
def t_Store_say_all (a : Ad) : AS :=
  (aSeq (aDrop (aBM "list" AppA (aFld a.Store "laid" (aVar 0)) (aCons (aTup (aCons (aC (.str "in")) (aCons (aC (.str "say_all")) aNil))) aNil)))
  (aSeq (aPar 3 4 (aCons (aCB DictMA (aCons (aFld a.Store "said" (aVar 0)) aNil)) (aCons (aFld a.Store "spent" (aVar 0)) aNil)))
  (aSeq (aAsg (aC .non) (gNameA 2))
  (aTryRet (aSeq (aIfS (aNot (aTru (aCB IsiTA (aCons (aVar 1) (aCons (aTup (aCons (aC (.ty "tuple")) (aCons (aC (.ty "list")) aNil))) aNil)))))
  aNeverS
  aNext)
  (aAsg (aCB TupleA (aCons (aLcC [5] (iSeqA (aVar 1)) (gNameA 5) aYes (aMeth a.Store "put_in" (sp_Store_put_in a) (fun ds _ => ds) 2 0 (aVar 0) (aCons (aVar 5) aNil) aNil) rFro) aNil)) (gNameA 2))) (aVar 2)
  (aSeq (aDrop (aBM "list" AppA (aFld a.Store "laid" (aVar 0)) (aCons (aTup (aCons (aC (.str "out")) (aCons (aC (.str "say_all")) aNil))) aNil)))
  (aIfS (aB (aBin IsA (aVar 2) (aC .non)))
  aNeverS
  aNext)) aNeverS))))
theorem den_Store_say_all (F : Fx P w K mg a) 
    (h_Store_put_in : Mt1 P w K mg base a.Store "put_in" 27 [] 2 0 (fun ds _ => ds) (sp_Store_put_in a))
    {f : Addr} {cdv : Value} {A : Around} {outer : List Env} {s : Shared} {H : Hp} {E : XK} (hr : Room 27 (A.deeper (envOfC "Store.say_all" (defScope s_Store_say_all) s.heap.objs.size f cdv))) :
    DenB (cxOf (L2.CX P w) P w K mg base N_Store_say_all "Store.say_all" (defScope s_Store_say_all) f cdv A outer s H E) (defBody s_Store_say_all) (t_Store_say_all a) :=
  (db_cons (ds_expr (de_bm PySem.F.plainAttrs_list PySem.F.slot_list_append PySem.F.type_list_append okm_append (de_fld F.k_Store F.n_Store_laid (de_var 0)) (da_cons (de_tup (da_cons de_str (da_cons de_str da_nil))) da_nil)))
  (db_cons (ds_par (i := 3) (j := 4) rfl sc_Store_say_all.nd (da_cons (de_ct okc_dictM F.b_dict boot_dict (da_cons (de_fld F.k_Store F.n_Store_said (de_var 0)) da_nil)) (da_cons (de_fld F.k_Store F.n_Store_spent (de_var 0)) da_nil)))
  (db_cons (ds_set 2 sc_Store_say_all.nd de_non)
  (db_one (ds_tryRet (fun pn xe hp => (db_cons (ds_if (dt_not (dt_tru (de_cb okc_isiT F.b_isinstance boot_isinstance (da_cons (de_var 1) (da_cons (de_tup (da_cons (de_bltn (d := .ty "tuple") (v := .ty "tuple") F.b_tuple boot_tuple rfl) (da_cons (de_bltn (d := .ty "list") (v := .ty "list") F.b_list boot_list rfl) da_nil))) da_nil))))) (db_one ds_never) db_nil)
  (db_one (ds_set 2 sc_Store_say_all.nd (de_ct okc_tuple F.b_tuple boot_tuple (da_cons (de_lcC (own := [("saying", 5)]) false rfl rfl sc_Store_say_all.nd (blkOk_by (own := [("saying", 5)]) (N := N_Store_say_all) (sc := defScope s_Store_say_all) (by decide +kernel)) (di_seq (de_var 1)) (fun _ _ _ _ _ => (dg_name 5 sc_Store_say_all.nd)) (fun _ _ _ _ _ => dts_nil) (fun _ _ _ _ _ => (de_m h_Store_put_in (hr.mono (by decide)) (de_var 0) (da_cons (de_var 5) da_nil)))) da_nil)))))) (fun pn xe hp => (de_var 2)) (db_cons (ds_expr (de_bm PySem.F.plainAttrs_list PySem.F.slot_list_append PySem.F.type_list_append okm_append (de_fld F.k_Store F.n_Store_laid (de_var 0)) (da_cons (de_tup (da_cons de_str (da_cons de_str da_nil))) da_nil)))
  (db_one (ds_if (dt_cmp ok_is (de_var 2) de_non) (db_one ds_never) db_nil))) (fun _ _ => db_never))))))
--@ Store.drop
abbrev s_Store_drop : Stmt := inClass (topS 39) 5
abbrev N_Store_drop : List Str := ["self", "number"]
theorem sc_Store_drop : FnScope N_Store_drop ["self", "number"] (defScope s_Store_drop) := ⟨rfl, rfl, rfl, by decide +kernel, rfl, by decide +kernel, by decide +kernel⟩
def t_Store_drop (a : Ad) : AS :=
  (aSeq (aDrop (aBM "list" AppA (aFld a.Store "laid" (aVar 0)) (aCons (aTup (aCons (aC (.str "in")) (aCons (aC (.str "drop")) aNil))) aNil)))
  (aTryNx (aSeq (aIfS (aOr (aNot (aTru (aCall (sp_is_whole a) (fun ds es => ds ++ [.non, .non]) 1 (aCons (aVar 1) aNil)))) (aB (aBin NotInDA (aVar 1) (aFld a.Store "said" (aVar 0)))))
  aNeverS
  aNext)
  (aDrop (aDPop (aFld a.Store "said" (aVar 0)) (aVar 1))))
  (aDrop (aBM "list" AppA (aFld a.Store "laid" (aVar 0)) (aCons (aTup (aCons (aC (.str "out")) (aCons (aC (.str "drop")) aNil))) aNil))) aNeverS))
theorem den_Store_drop (F : Fx P w K mg a) 
    (h_is_whole_n : Fn1 P w K mg base "is_whole" 1 [] 1 0 (fun ds es => ds ++ [.non, .non]) (sp_is_whole a))
    {f : Addr} {cdv : Value} {A : Around} {outer : List Env} {s : Shared} {H : Hp} {E : XK} (hr : Room 1 (A.deeper (envOfC "Store.drop" (defScope s_Store_drop) s.heap.objs.size f cdv))) :
    DenB (cxOf (L2.CX P w) P w K mg base N_Store_drop "Store.drop" (defScope s_Store_drop) f cdv A outer s H E) (defBody s_Store_drop) (t_Store_drop a) :=
  (db_cons (ds_expr (de_bm PySem.F.plainAttrs_list PySem.F.slot_list_append PySem.F.type_list_append okm_append (de_fld F.k_Store F.n_Store_laid (de_var 0)) (da_cons (de_tup (da_cons de_str (da_cons de_str da_nil))) da_nil)))
  (db_one (ds_tryNx (fun pn xe hp => (db_cons (ds_if (DenW.t (dw_or (dt_not (dt_tru (de_f h_is_whole_n (hr.mono (by decide)) (da_cons (de_var 1) da_nil)))) (dw_or1 (dt_cmp (ok_notinD hr.units1) (de_var 1) (de_fld F.k_Store F.n_Store_said (de_var 0)))))) (db_one ds_never) db_nil)
  (db_one (ds_expr (de_dpop (de_fld F.k_Store F.n_Store_said (de_var 0)) (de_var 1)))))) (db_one (ds_expr (de_bm PySem.F.plainAttrs_list PySem.F.slot_list_append PySem.F.type_list_append okm_append (de_fld F.k_Store F.n_Store_laid (de_var 0)) (da_cons (de_tup (da_cons de_str (da_cons de_str da_nil))) da_nil)))) (fun _ _ => db_never))))
--@ Store.mark
abbrev s_Store_mark : Stmt := inClass (topS 39) 6
abbrev N_Store_mark : List Str := ["self"]
theorem sc_Store_mark : FnScope N_Store_mark ["self"] (defScope s_Store_mark) := ⟨rfl, rfl, rfl, by decide +kernel, rfl, by decide +kernel, by decide +kernel⟩
def t_Store_mark (a : Ad) : AS :=
  (aSeq (aDrop (aBM "list" AppA (aFld a.Store "laid" (aVar 0)) (aCons (aTup (aCons (aC (.str "in")) (aCons (aC (.str "mark")) aNil))) aNil)))
  (aTryRet (aDrop (aBM "list" AppA (aFld a.Store "piles" (aVar 0)) (aCons (aCB DictMA (aCons (aFld a.Store "said" (aVar 0)) aNil)) aNil))) (aCB LenA (aCons (aFld a.Store "piles" (aVar 0)) aNil))
  (aDrop (aBM "list" AppA (aFld a.Store "laid" (aVar 0)) (aCons (aTup (aCons (aC (.str "out")) (aCons (aC (.str "mark")) aNil))) aNil))) aNeverS))
theorem den_Store_mark (F : Fx P w K mg a) 
    {f : Addr} {cdv : Value} {A : Around} {outer : List Env} {s : Shared} {H : Hp} {E : XK} (hr : Room 0 (A.deeper (envOfC "Store.mark" (defScope s_Store_mark) s.heap.objs.size f cdv))) :
    DenB (cxOf (L2.CX P w) P w K mg base N_Store_mark "Store.mark" (defScope s_Store_mark) f cdv A outer s H E) (defBody s_Store_mark) (t_Store_mark a) :=
  (db_cons (ds_expr (de_bm PySem.F.plainAttrs_list PySem.F.slot_list_append PySem.F.type_list_append okm_append (de_fld F.k_Store F.n_Store_laid (de_var 0)) (da_cons (de_tup (da_cons de_str (da_cons de_str da_nil))) da_nil)))
  (db_one (ds_tryRet (fun pn xe hp => (db_one (ds_expr (de_bm PySem.F.plainAttrs_list PySem.F.slot_list_append PySem.F.type_list_append okm_append (de_fld F.k_Store F.n_Store_piles (de_var 0)) (da_cons (de_ct okc_dictM F.b_dict boot_dict (da_cons (de_fld F.k_Store F.n_Store_said (de_var 0)) da_nil)) da_nil))))) (fun pn xe hp => (de_cb okc_len F.b_len boot_len (da_cons (de_fld F.k_Store F.n_Store_piles (de_var 0)) da_nil))) (db_one (ds_expr (de_bm PySem.F.plainAttrs_list PySem.F.slot_list_append PySem.F.type_list_append okm_append (de_fld F.k_Store F.n_Store_laid (de_var 0)) (da_cons (de_tup (da_cons de_str (da_cons de_str da_nil))) da_nil)))) (fun _ _ => db_never))))
--@ Store.back
abbrev s_Store_back : Stmt := inClass (topS 39) 7
abbrev N_Store_back : List Str := ["self"]
theorem sc_Store_back : FnScope N_Store_back ["self"] (defScope s_Store_back) := ⟨rfl, rfl, rfl, by decide +kernel, rfl, by decide +kernel, by decide +kernel⟩
def t_Store_back (a : Ad) : AS :=
  (aSeq (aDrop (aBM "list" AppA (aFld a.Store "laid" (aVar 0)) (aCons (aTup (aCons (aC (.str "in")) (aCons (aC (.str "back")) aNil))) aNil)))
  (aTryNx (aSeq (aIfS (aB (aBin EqA (aCB LenA (aCons (aFld a.Store "piles" (aVar 0)) aNil)) (aC (.int 0))))
  aNeverS
  aNext)
  (aSetF a.Store "said" (aVar 0) (aBM "list" PopA (aFld a.Store "piles" (aVar 0)) aNil)))
  (aDrop (aBM "list" AppA (aFld a.Store "laid" (aVar 0)) (aCons (aTup (aCons (aC (.str "out")) (aCons (aC (.str "back")) aNil))) aNil))) aNeverS))
theorem den_Store_back (F : Fx P w K mg a) 
    {f : Addr} {cdv : Value} {A : Around} {outer : List Env} {s : Shared} {H : Hp} {E : XK} (hr : Room 0 (A.deeper (envOfC "Store.back" (defScope s_Store_back) s.heap.objs.size f cdv))) :
    DenB (cxOf (L2.CX P w) P w K mg base N_Store_back "Store.back" (defScope s_Store_back) f cdv A outer s H E) (defBody s_Store_back) (t_Store_back a) :=
  (db_cons (ds_expr (de_bm PySem.F.plainAttrs_list PySem.F.slot_list_append PySem.F.type_list_append okm_append (de_fld F.k_Store F.n_Store_laid (de_var 0)) (da_cons (de_tup (da_cons de_str (da_cons de_str da_nil))) da_nil)))
  (db_one (ds_tryNx (fun pn xe hp => (db_cons (ds_if (dt_cmp (ok_eq hr.units) (de_cb okc_len F.b_len boot_len (da_cons (de_fld F.k_Store F.n_Store_piles (de_var 0)) da_nil)) de_int) (db_one ds_never) db_nil)
  (db_one (ds_fld F.k_Store F.n_Store_said (de_var 0) (de_bm0 PySem.F.plainAttrs_list PySem.F.slot_list_pop PySem.F.type_list_pop okm_pop (de_fld F.k_Store F.n_Store_piles (de_var 0))))))) (db_one (ds_expr (de_bm PySem.F.plainAttrs_list PySem.F.slot_list_append PySem.F.type_list_append okm_append (de_fld F.k_Store F.n_Store_laid (de_var 0)) (da_cons (de_tup (da_cons de_str (da_cons de_str da_nil))) da_nil)))) (fun _ _ => db_never))))
--@ Store.standing
abbrev s_Store_standing : Stmt := inClass (topS 39) 13
abbrev N_Store_standing : List Str := ["self"]
theorem sc_Store_standing : FnScope N_Store_standing ["self"] (defScope s_Store_standing) := ⟨rfl, rfl, rfl, by decide +kernel, rfl, by decide +kernel, by decide +kernel⟩
def t_Store_standing (a : Ad) : AS :=
  (aRet (aCB DictMA (aCons (aFld a.Store "said" (aVar 0)) aNil)))
theorem den_Store_standing (F : Fx P w K mg a) 
    {f : Addr} {cdv : Value} {A : Around} {outer : List Env} {s : Shared} {H : Hp} {E : XK} (hr : Room 0 (A.deeper (envOfC "Store.standing" (defScope s_Store_standing) s.heap.objs.size f cdv))) :
    DenB (cxOf (L2.CX P w) P w K mg base N_Store_standing "Store.standing" (defScope s_Store_standing) f cdv A outer s H E) (defBody s_Store_standing) (t_Store_standing a) :=
  (db_one (ds_ret (de_ct okc_dictM F.b_dict boot_dict (da_cons (de_fld F.k_Store F.n_Store_said (de_var 0)) da_nil))))
--@ Store.log
abbrev s_Store_log : Stmt := inClass (topS 39) 14
abbrev N_Store_log : List Str := ["self"]
theorem sc_Store_log : FnScope N_Store_log ["self"] (defScope s_Store_log) := ⟨rfl, rfl, rfl, by decide +kernel, rfl, by decide +kernel, by decide +kernel⟩
def t_Store_log (a : Ad) : AS :=
  (aRet (aCB TupleA (aCons (aFld a.Store "laid" (aVar 0)) aNil)))
theorem den_Store_log (F : Fx P w K mg a) 
    {f : Addr} {cdv : Value} {A : Around} {outer : List Env} {s : Shared} {H : Hp} {E : XK} (hr : Room 0 (A.deeper (envOfC "Store.log" (defScope s_Store_log) s.heap.objs.size f cdv))) :
    DenB (cxOf (L2.CX P w) P w K mg base N_Store_log "Store.log" (defScope s_Store_log) f cdv A outer s H E) (defBody s_Store_log) (t_Store_log a) :=
  (db_one (ds_ret (de_ct okc_tuple F.b_tuple boot_tuple (da_cons (de_fld F.k_Store F.n_Store_laid (de_var 0)) da_nil))))
--@ Store.talk
abbrev s_Store_talk : Stmt := inClass (topS 39) 15
abbrev N_Store_talk : List Str := ["self"]
theorem sc_Store_talk : FnScope N_Store_talk ["self"] (defScope s_Store_talk) := ⟨rfl, rfl, rfl, by decide +kernel, rfl, by decide +kernel, by decide +kernel⟩
def t_Store_talk (a : Ad) : AS :=
  (aRet (aFld a.Store "spoken_in" (aVar 0)))
theorem den_Store_talk (F : Fx P w K mg a) 
    {f : Addr} {cdv : Value} {A : Around} {outer : List Env} {s : Shared} {H : Hp} {E : XK} (hr : Room 0 (A.deeper (envOfC "Store.talk" (defScope s_Store_talk) s.heap.objs.size f cdv))) :
    DenB (cxOf (L2.CX P w) P w K mg base N_Store_talk "Store.talk" (defScope s_Store_talk) f cdv A outer s H E) (defBody s_Store_talk) (t_Store_talk a) :=
  (db_one (ds_ret (de_fld F.k_Store F.n_Store_spoken_in (de_var 0))))
--@ Store.twin
abbrev s_Store_twin : Stmt := inClass (topS 39) 16
abbrev N_Store_twin : List Str := ["self", "other", "pile"]
theorem sc_Store_twin : FnScope N_Store_twin ["self"] (defScope s_Store_twin) := ⟨rfl, rfl, rfl, by decide +kernel, rfl, by decide +kernel, by decide +kernel⟩
def t_Store_twin (a : Ad) : AS :=
  (aSeq (aAsg (aMk true a.Store (sp_Store_init a) (fun ds es => ds ++ es) 1 0 (aCons (aFld a.Store "spoken_in" (aVar 0)) aNil) aNil) (gNameA 1))
  (aSeq (aSetF a.Store "said" (aVar 1) (aCB DictMA (aCons (aFld a.Store "said" (aVar 0)) aNil)))
  (aSeq (aSetF a.Store "spent" (aVar 1) (aFld a.Store "spent" (aVar 0)))
  (aSeq (aSetF a.Store "piles" (aVar 1) (aLcC [2] (iMemA (aFld a.Store "piles" (aVar 0))) (gNameA 2) aYes (aCB DictMA (aCons (aVar 2) aNil)) rMut))
  (aSeq (aSetF a.Store "laid" (aVar 1) (aCB ListMA (aCons (aFld a.Store "laid" (aVar 0)) aNil)))
  (aRet (aVar 1)))))))
theorem den_Store_twin (F : Fx P w K mg a) 
    (h_Store : Mk1 P w K mg base "Store" a.Store 1 [] 1 0 (fun ds es => ds ++ es) (sp_Store_init a))
    {f : Addr} {cdv : Value} {A : Around} {outer : List Env} {s : Shared} {H : Hp} {E : XK} (hr : Room 2 (A.deeper (envOfC "Store.twin" (defScope s_Store_twin) s.heap.objs.size f cdv))) :
    DenB (cxOf (L2.CX P w) P w K mg base N_Store_twin "Store.twin" (defScope s_Store_twin) f cdv A outer s H E) (defBody s_Store_twin) (t_Store_twin a) :=
  (db_cons (ds_set 1 sc_Store_twin.nd (de_k true h_Store (hr.mono (by decide)) (da_cons (de_fld F.k_Store F.n_Store_spoken_in (de_var 0)) da_nil) dk_nil))
  (db_cons (ds_fld F.k_Store F.n_Store_said (de_var 1) (de_ct okc_dictM F.b_dict boot_dict (da_cons (de_fld F.k_Store F.n_Store_said (de_var 0)) da_nil)))
  (db_cons (ds_fld F.k_Store F.n_Store_spent (de_var 1) (de_fld F.k_Store F.n_Store_spent (de_var 0)))
  (db_cons (ds_fld F.k_Store F.n_Store_piles (de_var 1) (de_lcC (own := [("pile", 2)]) true rfl rfl sc_Store_twin.nd (blkOk_by (own := [("pile", 2)]) (N := N_Store_twin) (sc := defScope s_Store_twin) (by decide +kernel)) (di_mem (de_fld F.k_Store F.n_Store_piles (de_var 0))) (fun _ _ _ _ _ => (dg_name 2 sc_Store_twin.nd)) (fun _ _ _ _ _ => dts_nil) (fun _ _ _ _ _ => (de_ct okc_dictM F.b_dict boot_dict (da_cons (de_var 2) da_nil)))))
  (db_cons (ds_fld F.k_Store F.n_Store_laid (de_var 1) (de_ct okc_listM F.b_list boot_list (da_cons (de_fld F.k_Store F.n_Store_laid (de_var 0)) da_nil)))
  (db_one (ds_ret (de_var 1))))))))
--@ Store.__eq__
abbrev s_Store_eq : Stmt := inClass (topS 39) 17
abbrev N_Store_eq : List Str := ["self", "other"]
theorem sc_Store_eq : FnScope N_Store_eq ["self", "other"] (defScope s_Store_eq) := ⟨rfl, rfl, rfl, by decide +kernel, rfl, by decide +kernel, by decide +kernel⟩
def t_Store_eq (a : Ad) : AS :=
  (aSeq (aIfS (aNot (aTru (aCB (IsiOwnA a.Store) (aCons (aVar 1) (aCons (aC (.ref a.Store)) aNil)))))
  (aRet (aC (.bl false)))
  aNext)
  (aRet (aAndV (aBin (EqOwnA a.Talk (sp_Talk_eq a)) (aFld a.Store "spoken_in" (aVar 0)) (aMeth a.Store "talk" (sp_Store_talk a) (fun ds _ => ds) 1 0 (aVar 1) aNil aNil)) (aBin EqA (aMeth a.Store "all_said" (sp_Store_all_said a) (fun ds _ => ds) 1 0 (aVar 0) aNil aNil) (aMeth a.Store "all_said" (sp_Store_all_said a) (fun ds _ => ds) 1 0 (aVar 1) aNil aNil)))))
theorem den_Store_eq (F : Fx P w K mg a) 
    (ho_Talk_eq : Own1 P w K mg base a.Talk "__eq__" 1 2 (sp_Talk_eq a))
    (h_Store_talk : Mt1 P w K mg base a.Store "talk" 1 [] 1 0 (fun ds _ => ds) (sp_Store_talk a))
    (h_Store_all_said : Mt1 P w K mg base a.Store "all_said" 1 [] 1 0 (fun ds _ => ds) (sp_Store_all_said a))
    {f : Addr} {cdv : Value} {A : Around} {outer : List Env} {s : Shared} {H : Hp} {E : XK} (hr : Room 2 (A.deeper (envOfC "Store.__eq__" (defScope s_Store_eq) s.heap.objs.size f cdv))) :
    DenB (cxOf (L2.CX P w) P w K mg base N_Store_eq "Store.__eq__" (defScope s_Store_eq) f cdv A outer s H E) (defBody s_Store_eq) (t_Store_eq a) :=
  (db_cons (ds_if (dt_not (dt_tru (de_cb (okc_isiOwn F.oi_Store) F.b_isinstance boot_isinstance (da_cons (de_var 1) (da_cons (de_glob (d := .ref a.Store) (v := .ref a.Store) F.g_Store rfl) da_nil))))) (db_one (ds_ret de_bl)) db_nil)
  (db_one (ds_ret (de_and (de_cmp (ok_eqOwn ho_Talk_eq (hr.mono (by decide)) F.si_Talk F.ss_Talk F.sd_Talk) (de_fld F.k_Store F.n_Store_spoken_in (de_var 0)) (de_m0 h_Store_talk (hr.mono (by decide)) (de_var 1))) (de_one (de_cmp (ok_eq hr.units) (de_m0 h_Store_all_said (hr.mono (by decide)) (de_var 0)) (de_m0 h_Store_all_said (hr.mono (by decide)) (de_var 1))))))))
--@ Store.__len__
abbrev s_Store_len : Stmt := inClass (topS 39) 18
abbrev N_Store_len : List Str := ["self"]
theorem sc_Store_len : FnScope N_Store_len ["self"] (defScope s_Store_len) := ⟨rfl, rfl, rfl, by decide +kernel, rfl, by decide +kernel, by decide +kernel⟩
def t_Store_len (a : Ad) : AS :=
  (aRet (aCB LenDA (aCons (aFld a.Store "said" (aVar 0)) aNil)))
theorem den_Store_len (F : Fx P w K mg a) 
    {f : Addr} {cdv : Value} {A : Around} {outer : List Env} {s : Shared} {H : Hp} {E : XK} (hr : Room 0 (A.deeper (envOfC "Store.__len__" (defScope s_Store_len) s.heap.objs.size f cdv))) :
    DenB (cxOf (L2.CX P w) P w K mg base N_Store_len "Store.__len__" (defScope s_Store_len) f cdv A outer s H E) (defBody s_Store_len) (t_Store_len a) :=
  (db_one (ds_ret (de_cb okc_lenD F.b_len boot_len (da_cons (de_fld F.k_Store F.n_Store_said (de_var 0)) da_nil))))
--@ Store.__repr__
abbrev s_Store_repr : Stmt := inClass (topS 39) 19
abbrev N_Store_repr : List Str := ["self"]
theorem sc_Store_repr : FnScope N_Store_repr ["self"] (defScope s_Store_repr) := ⟨rfl, rfl, rfl, by decide +kernel, rfl, by decide +kernel, by decide +kernel⟩
def t_Store_repr (a : Ad) : AS :=
  (aRet (aBM "str" JoinA (aC (.str "")) (aCons (aLst (aCons (aC (.str "Store(")) (aCons (aCB StrA (aCons (aCB LenDA (aCons (aFld a.Store "said" (aVar 0)) aNil)) aNil)) (aCons (aC (.str " sayings)")) aNil)))) aNil)))
theorem den_Store_repr (F : Fx P w K mg a) 
    {f : Addr} {cdv : Value} {A : Around} {outer : List Env} {s : Shared} {H : Hp} {E : XK} (hr : Room 0 (A.deeper (envOfC "Store.__repr__" (defScope s_Store_repr) s.heap.objs.size f cdv))) :
    DenB (cxOf (L2.CX P w) P w K mg base N_Store_repr "Store.__repr__" (defScope s_Store_repr) f cdv A outer s H E) (defBody s_Store_repr) (t_Store_repr a) :=
  (db_one (ds_ret (de_bm PySem.F.plainAttrs_str PySem.F.slot_str_join PySem.F.type_str_join okm_join de_str (da_cons (de_lst (da_cons de_str (da_cons (de_ct okc_str F.b_str boot_str (da_cons (de_cb okc_lenD F.b_len boot_len (da_cons (de_fld F.k_Store F.n_Store_said (de_var 0)) da_nil)) da_nil)) (da_cons de_str da_nil)))) da_nil))))
--@ _law_pool
abbrev s_l_pool : Stmt := topS 45
abbrev N_l_pool : List Str := ["_law_script", "_law_k", "_law_cell"]
theorem sc_l_pool : FnScope N_l_pool ["_law_script", "_law_k"] (defScope s_l_pool) := ⟨rfl, rfl, rfl, by decide +kernel, rfl, by decide +kernel, by decide +kernel⟩
def t_l_pool (a : Ad) : AS :=
  (aSeq (aAsg (aC (.int 0)) (gNameA 2))
  (aSeq (aIfS (aB (aBin LtA (aVar 1) (aCB LenA (aCons (aVar 0) aNil))))
  (aAsg (aBin IxA (aVar 0) (aVar 1)) (gNameA 2))
  aNext)
  (aRet (aLstM (aCons (aCB MaxA (aCons (aC (.int 0)) (aCons (aBin SubA (aVar 2) (aBin PowA (aC (.int 10)) (aC (.int 18)))) aNil))) (aCons (aBin ModA (aVar 2) (aC (.int 1000000007))) (aCons (aBin AddA (aBin MulA (aC (.int 7919)) (aVar 1)) (aC (.int 1))) aNil)))))))
theorem den_l_pool (F : Fx P w K mg a) 
    {f : Addr} {cdv : Value} {A : Around} {outer : List Env} {s : Shared} {H : Hp} {E : XK} (hr : Room 0 (A.deeper (envOfC "_law_pool" (defScope s_l_pool) s.heap.objs.size f cdv))) :
    DenB (cxOf (L2.CX P w) P w K mg base N_l_pool "_law_pool" (defScope s_l_pool) f cdv A outer s H E) (defBody s_l_pool) (t_l_pool a) :=
  (db_cons (ds_set 2 sc_l_pool.nd de_int)
  (db_cons (ds_if (dt_cmp ok_lt (de_var 1) (de_cb okc_len F.b_len boot_len (da_cons (de_var 0) da_nil))) (db_one (ds_set 2 sc_l_pool.nd (de_ix (de_var 0) (de_var 1)))) db_nil)
  (db_one (ds_ret (de_lstM (da_cons (de_cb (okc_max rfl) F.b_max boot_max (da_cons de_int (da_cons (de_bin ok_sub (de_var 2) (de_bin ok_pow de_int de_int)) da_nil))) (da_cons (de_bin ok_mod (de_var 2) de_int) (da_cons (de_bin ok_add (de_bin ok_mul de_int (de_var 1)) de_int) da_nil))))))))
--@ _law_take
abbrev s_l_take : Stmt := topS 46
abbrev N_l_take : List Str := ["_law_pool_here", "_law_many", "_law_one", "_law_two", "_law_digit"]
theorem sc_l_take : FnScope N_l_take ["_law_pool_here", "_law_many"] (defScope s_l_take) := ⟨rfl, rfl, rfl, by decide +kernel, rfl, by decide +kernel, by decide +kernel⟩
def t_l_take (a : Ad) : AS :=
  (aSeq (aIfS (aB (aBin GtA (aBin IxA (aVar 0) (aC (.int 0))) (aC (.int 0))))
  (aSeq (aAsg (aBin ModA (aBin IxA (aVar 0) (aC (.int 0))) (aVar 1)) (gNameA 4))
  (aSeq (aAsg (aBin DivA (aBin IxA (aVar 0) (aC (.int 0))) (aVar 1)) (gSetL (aVar 0) (aC (.int 0))))
  (aRet (aVar 4))))
  aNext)
  (aSeq (aAsg (aBin AddA (aBin IxA (aVar 0) (aC (.int 2))) (aC (.int 1))) (gSetL (aVar 0) (aC (.int 2))))
  (aSeq (aAsg (aBin ModA (aBin AddA (aBin AddA (aBin MulA (aBin IxA (aVar 0) (aC (.int 1))) (aC (.int 48271))) (aBin MulA (aC (.int 104729)) (aBin IxA (aVar 0) (aC (.int 2))))) (aC (.int 101))) (aC (.int 2147483629))) (gNameA 2))
  (aSeq (aAsg (aBin ModA (aBin PowA (aVar 2) (aC (.int 5))) (aC (.int 2147483587))) (gNameA 2))
  (aSeq (aAsg (aBin ModA (aBin PowA (aBin AddA (aBin AddA (aVar 2) (aBin MulA (aBin MulA (aC (.int 69621)) (aBin IxA (aVar 0) (aC (.int 2)))) (aBin IxA (aVar 0) (aC (.int 2))))) (aBin ModA (aBin IxA (aVar 0) (aC (.int 1))) (aC (.int 65537)))) (aC (.int 3))) (aC (.int 2147483563))) (gNameA 3))
  (aRet (aBin ModA (aBin DivA (aBin ModA (aBin MulA (aVar 3) (aC (.int 40692))) (aC (.int 2147483549))) (aC (.int 64))) (aVar 1))))))))
theorem den_l_take (F : Fx P w K mg a) 
    {f : Addr} {cdv : Value} {A : Around} {outer : List Env} {s : Shared} {H : Hp} {E : XK} (hr : Room 0 (A.deeper (envOfC "_law_take" (defScope s_l_take) s.heap.objs.size f cdv))) :
    DenB (cxOf (L2.CX P w) P w K mg base N_l_take "_law_take" (defScope s_l_take) f cdv A outer s H E) (defBody s_l_take) (t_l_take a) :=
  (db_cons (ds_if (dt_cmp ok_gt (de_ix (de_var 0) de_int) de_int) (db_cons (ds_set 4 sc_l_take.nd (de_bin ok_mod (de_ix (de_var 0) de_int) (de_var 1)))
  (db_cons (ds_asg (de_bin ok_div (de_ix (de_var 0) de_int) (de_var 1)) (dg_sub (de_var 0) de_int))
  (db_one (ds_ret (de_var 4))))) db_nil)
  (db_cons (ds_asg (de_bin ok_add (de_ix (de_var 0) de_int) de_int) (dg_sub (de_var 0) de_int))
  (db_cons (ds_set 2 sc_l_take.nd (de_bin ok_mod (de_bin ok_add (de_bin ok_add (de_bin ok_mul (de_ix (de_var 0) de_int) de_int) (de_bin ok_mul de_int (de_ix (de_var 0) de_int))) de_int) de_int))
  (db_cons (ds_set 2 sc_l_take.nd (de_bin ok_mod (de_bin ok_pow (de_var 2) de_int) de_int))
  (db_cons (ds_set 3 sc_l_take.nd (de_bin ok_mod (de_bin ok_pow (de_bin ok_add (de_bin ok_add (de_var 2) (de_bin ok_mul (de_bin ok_mul de_int (de_ix (de_var 0) de_int)) (de_ix (de_var 0) de_int))) (de_bin ok_mod (de_ix (de_var 0) de_int) de_int)) de_int) de_int))
  (db_one (ds_ret (de_bin ok_mod (de_bin ok_div (de_bin ok_mod (de_bin ok_mul (de_var 3) de_int) de_int) de_int) (de_var 1)))))))))
--@ _law_names
abbrev s_l_names : Stmt := topS 47
abbrev N_l_names : List Str := ["_law_pool_here", "_law_many", "_law_letters", "_law_found", "_law_k", "_law_word", "_law_at", "_law_some", "_law_one", "_law_turn_here", "_law_letter"]
theorem sc_l_names : FnScope N_l_names ["_law_pool_here", "_law_many"] (defScope s_l_names) := ⟨rfl, rfl, rfl, by decide +kernel, rfl, by decide +kernel, by decide +kernel⟩
def t_l_names (a : Ad) : AS :=
  (aSeq (aAsg (aBin IxA (aLst (aCons (aC (.str "abcdefghijklmnopqrstuvwxyz")) (aCons (aC (.str "ab")) aNil))) (aCall (sp_l_take a) (fun ds _ => ds) 2 (aCons (aVar 0) (aCons (aC (.int 2)) aNil)))) (gNameA 2))
  (aSeq (aAsg (aLstM aNil) (gNameA 3))
  (aSeq (aFor (iRngA1 (aCons (aVar 1) aNil)) (gNameA 4)
  (aSeq (aAsg (aBM "str" JoinA (aC (.str "")) (aCons (aLcL [9] (iRngA1 (aCons (aBin AddA (aC (.int 1)) (aCall (sp_l_take a) (fun ds _ => ds) 2 (aCons (aVar 0) (aCons (aC (.int 8)) aNil)))) aNil)) (gNameA 9) aYes (aBin IxA (aVar 2) (aCall (sp_l_take a) (fun ds _ => ds) 2 (aCons (aVar 0) (aCons (aCB LenA (aCons (aVar 2) aNil)) aNil)))) rFro) aNil)) (gNameA 5))
  (aSeq (aAsg (aCall (sp_l_take a) (fun ds _ => ds) 2 (aCons (aVar 0) (aCons (aCB LenA (aCons (aVar 5) aNil)) aNil))) (gNameA 6))
  (aSeq (aAsg (aBin AddA (aLst (aCons (aVar 5) aNil)) (aLcL [10] (iStrA (aC (.str "abcdefghijklmnopqrstuvwxyz"))) (gNameA 10) aYes (aBin AddA (aBin AddA (aSl (aVar 5) aNoPart (aPart (aVar 6))) (aVar 10)) (aSl (aVar 5) (aPart (aBin AddA (aVar 6) (aC (.int 1)))) aNoPart)) rFro)) (gNameA 7))
  (aSeq (aAsg (aLcL [8] (iLstA (aVar 7)) (gNameA 8) (aB (aBin NotInA (aVar 8) (aVar 3))) (aVar 8) rFro) (gNameA 7))
  (aDrop (aBM "list" AppA (aVar 3) (aCons (aBin IxA (aVar 7) (aC (.int 0))) aNil))))))))
  (aRet (aFrz (aVar 3))))))
theorem den_l_names (F : Fx P w K mg a) 
    (h_l_take : Fn1 P w K mg base "_law_take" 1 [] 2 0 (fun ds _ => ds) (sp_l_take a))
    {f : Addr} {cdv : Value} {A : Around} {outer : List Env} {s : Shared} {H : Hp} {E : XK} (hr : Room 1 (A.deeper (envOfC "_law_names" (defScope s_l_names) s.heap.objs.size f cdv))) :
    DenB (cxOf (L2.CX P w) P w K mg base N_l_names "_law_names" (defScope s_l_names) f cdv A outer s H E) (defBody s_l_names) (t_l_names a) :=
  (db_cons (ds_set 2 sc_l_names.nd (de_ix (de_lst (da_cons de_str (da_cons de_str da_nil))) (de_f h_l_take (hr.mono (by decide)) (da_cons (de_var 0) (da_cons de_int da_nil)))))
  (db_cons (ds_set 3 sc_l_names.nd (de_lstM da_nil))
  (db_cons (ds_for (passes_of rfl) rfl (di_range1 F.b_range (da_cons (de_var 1) da_nil)) (dg_name 4 sc_l_names.nd) (db_cons (ds_set 5 sc_l_names.nd (de_bm PySem.F.plainAttrs_str PySem.F.slot_str_join PySem.F.type_str_join okm_join de_str (da_cons (de_lc (own := [("_law_turn_here", 9)]) false rfl rfl sc_l_names.nd (blkOk_by (own := [("_law_turn_here", 9)]) (N := N_l_names) (sc := defScope s_l_names) (by decide +kernel)) (di_range1 F.b_range (da_cons (de_bin ok_add de_int (de_f h_l_take (hr.mono (by decide)) (da_cons (de_var 0) (da_cons de_int da_nil)))) da_nil)) (fun _ _ _ _ _ => (dg_name 9 sc_l_names.nd)) (fun _ _ _ _ _ => dts_nil) (fun _ _ _ _ _ => (de_ix (de_var 2) (de_f h_l_take (hr.mono (by decide)) (da_cons (de_var 0) (da_cons (de_cb okc_len F.b_len boot_len (da_cons (de_var 2) da_nil)) da_nil)))))) da_nil)))
  (db_cons (ds_set 6 sc_l_names.nd (de_f h_l_take (hr.mono (by decide)) (da_cons (de_var 0) (da_cons (de_cb okc_len F.b_len boot_len (da_cons (de_var 5) da_nil)) da_nil))))
  (db_cons (ds_set 7 sc_l_names.nd (de_bin ok_add (de_lst (da_cons (de_var 5) da_nil)) (de_lc (own := [("_law_letter", 10)]) false rfl rfl sc_l_names.nd (blkOk_by (own := [("_law_letter", 10)]) (N := N_l_names) (sc := defScope s_l_names) (by decide +kernel)) (di_str de_str) (fun _ _ _ _ _ => (dg_name 10 sc_l_names.nd)) (fun _ _ _ _ _ => dts_nil) (fun _ _ _ _ _ => (de_bin ok_add (de_bin ok_add (de_sl (de_var 5) do_none (do_some (de_var 6))) (de_var 10)) (de_sl (de_var 5) (do_some (de_bin ok_add (de_var 6) de_int)) do_none))))))
  (db_cons (ds_setLc (own := [("_law_one", 8)]) false 7 rfl rfl sc_l_names.nd (blkOk_by (own := [("_law_one", 8)]) (N := N_l_names) (sc := defScope s_l_names) (by decide +kernel)) (di_list (de_var 7)) (fun _ _ _ _ _ => (dg_name 8 sc_l_names.nd)) (fun _ _ _ _ _ => (dts_one (dt_cmp ok_notin (de_var 8) (de_var 3)))) (fun _ _ _ _ _ => (de_var 8)) (sw_true rfl rfl rfl (by decide +kernel)))
  (db_one (ds_expr (de_bm PySem.F.plainAttrs_list PySem.F.slot_list_append PySem.F.type_list_append okm_append (de_var 3) (da_cons (de_ix (de_var 7) de_int) da_nil)))))))))
  (db_one (ds_ret (de_frz (de_var 3)))))))
--@ _law_tongue
abbrev s_l_tongue : Stmt := topS 48
abbrev N_l_tongue : List Str := ["_law_pool_here", "_law_many", "_law_numbers", "_law_size", "_law_names_here"]
theorem sc_l_tongue : FnScope N_l_tongue ["_law_pool_here", "_law_many", "_law_numbers"] (defScope s_l_tongue) := ⟨rfl, rfl, rfl, by decide +kernel, rfl, by decide +kernel, by decide +kernel⟩
def t_l_tongue (a : Ad) : AS :=
  (aSeq (aAsg (aCall (sp_l_take a) (fun ds _ => ds) 2 (aCons (aVar 0) (aCons (aBin AddA (aVar 1) (aC (.int 1))) aNil))) (gNameA 3))
  (aSeq (aAsg (aCall (sp_l_names a) (fun ds _ => ds) 2 (aCons (aVar 0) (aCons (aBin AddA (aVar 3) (aCall (sp_l_take a) (fun ds _ => ds) 2 (aCons (aVar 0) (aCons (aBin AddA (aVar 2) (aC (.int 1))) aNil)))) aNil))) (gNameA 4))
  (aRet (aTup (aCons (aCB TupleNA (aCons (aCB SortedA (aCons (aSl (aVar 4) aNoPart (aPart (aVar 3))) aNil)) aNil)) (aCons (aCB TupleNA (aCons (aCB SortedA (aCons (aSl (aVar 4) (aPart (aVar 3)) aNoPart) aNil)) aNil)) aNil))))))
theorem den_l_tongue (F : Fx P w K mg a) 
    (h_l_take : Fn1 P w K mg base "_law_take" 1 [] 2 0 (fun ds _ => ds) (sp_l_take a))
    (h_l_names : Fn1 P w K mg base "_law_names" 2 [] 2 0 (fun ds _ => ds) (sp_l_names a))
    {f : Addr} {cdv : Value} {A : Around} {outer : List Env} {s : Shared} {H : Hp} {E : XK} (hr : Room 2 (A.deeper (envOfC "_law_tongue" (defScope s_l_tongue) s.heap.objs.size f cdv))) :
    DenB (cxOf (L2.CX P w) P w K mg base N_l_tongue "_law_tongue" (defScope s_l_tongue) f cdv A outer s H E) (defBody s_l_tongue) (t_l_tongue a) :=
  (db_cons (ds_set 3 sc_l_tongue.nd (de_f h_l_take (hr.mono (by decide)) (da_cons (de_var 0) (da_cons (de_bin ok_add (de_var 1) de_int) da_nil))))
  (db_cons (ds_set 4 sc_l_tongue.nd (de_f h_l_names (hr.mono (by decide)) (da_cons (de_var 0) (da_cons (de_bin ok_add (de_var 3) (de_f h_l_take (hr.mono (by decide)) (da_cons (de_var 0) (da_cons (de_bin ok_add (de_var 2) de_int) da_nil)))) da_nil))))
  (db_one (ds_ret (de_tup (da_cons (de_ct okc_tupleN F.b_tuple boot_tuple (da_cons (de_cb okc_sorted F.b_sorted boot_sorted (da_cons (de_sl (de_var 4) do_none (do_some (de_var 3))) da_nil)) da_nil)) (da_cons (de_ct okc_tupleN F.b_tuple boot_tuple (da_cons (de_cb okc_sorted F.b_sorted boot_sorted (da_cons (de_sl (de_var 4) (do_some (de_var 3)) do_none) da_nil)) da_nil)) da_nil)))))))
--@ _law_signed
abbrev s_l_signed : Stmt := topS 49
abbrev N_l_signed : List Str := ["_law_pool_here", "_law_top"]
theorem sc_l_signed : FnScope N_l_signed ["_law_pool_here", "_law_top"] (defScope s_l_signed) := ⟨rfl, rfl, rfl, by decide +kernel, rfl, by decide +kernel, by decide +kernel⟩
def t_l_signed (a : Ad) : AS :=
  (aRet (aBin SubA (aCall (sp_l_take a) (fun ds _ => ds) 2 (aCons (aVar 0) (aCons (aBin AddA (aBin MulA (aC (.int 2)) (aVar 1)) (aC (.int 1))) aNil))) (aVar 1)))
theorem den_l_signed (F : Fx P w K mg a) 
    (h_l_take : Fn1 P w K mg base "_law_take" 1 [] 2 0 (fun ds _ => ds) (sp_l_take a))
    {f : Addr} {cdv : Value} {A : Around} {outer : List Env} {s : Shared} {H : Hp} {E : XK} (hr : Room 1 (A.deeper (envOfC "_law_signed" (defScope s_l_signed) s.heap.objs.size f cdv))) :
    DenB (cxOf (L2.CX P w) P w K mg base N_l_signed "_law_signed" (defScope s_l_signed) f cdv A outer s H E) (defBody s_l_signed) (t_l_signed a) :=
  (db_one (ds_ret (de_bin ok_sub (de_f h_l_take (hr.mono (by decide)) (da_cons (de_var 0) (da_cons (de_bin ok_add (de_bin ok_mul de_int (de_var 1)) de_int) da_nil))) (de_var 1))))
--@ _law_term
abbrev s_l_term : Stmt := topS 50
abbrev N_l_term : List Str := ["_law_pool_here", "_law_sets", "_law_deep", "_law_way", "_law_one", "_law_some"]
theorem sc_l_term : FnScope N_l_term ["_law_pool_here", "_law_sets", "_law_deep"] (defScope s_l_term) := ⟨rfl, rfl, rfl, by decide +kernel, rfl, by decide +kernel, by decide +kernel⟩
def t_l_term (n : Nat) (a : Ad) : AS :=
  (aSeq (aAsg (aCall (sp_l_take a) (fun ds _ => ds) 2 (aCons (aVar 0) (aCons (aC (.int 9)) aNil))) (gNameA 3))
  (aSeq (aIfS (aOr (aB (aBin LtA (aVar 2) (aC (.int 2)))) (aB (aBin LtA (aVar 3) (aC (.int 3)))))
  (aSeq (aAsg (aBin AddA (aCB ListA (aCons (aVar 1) aNil)) (aLst (aCons (aTup (aCons (aC (.str "all")) aNil)) (aCons (aTup (aCons (aC (.str "none")) aNil)) aNil)))) (gNameA 5))
  (aSeq (aIfS (aAnd (aB (aBin GtA (aCB LenA (aCons (aVar 1) aNil)) (aC (.int 0)))) (aB (aBin GtA (aCall (sp_l_take a) (fun ds _ => ds) 2 (aCons (aVar 0) (aCons (aC (.int 6)) aNil))) (aC (.int 0)))))
  (aAsg (aCB ListA (aCons (aVar 1) aNil)) (gNameA 5))
  aNext)
  (aRet (aBin IxA (aVar 5) (aCall (sp_l_take a) (fun ds _ => ds) 2 (aCons (aVar 0) (aCons (aCB LenA (aCons (aVar 5) aNil)) aNil)))))))
  aNext)
  (aSeq (aIfS (aB (aBin EqA (aVar 3) (aC (.int 3))))
  (aRet (aTup (aCons (aC (.str "not")) (aCons (aCall (sp_l_term n a) (fun ds _ => ds) 3 (aCons (aVar 0) (aCons (aVar 1) (aCons (aBin SubA (aVar 2) (aC (.int 1))) aNil)))) aNil))))
  aNext)
  (aSeq (aAsg (aCall (sp_l_term n a) (fun ds _ => ds) 3 (aCons (aVar 0) (aCons (aVar 1) (aCons (aBin SubA (aVar 2) (aC (.int 1))) aNil)))) (gNameA 4))
  (aRet (aTup (aCons (aBin IxA (aLst (aCons (aC (.str "and")) (aCons (aC (.str "or")) (aCons (aC (.str "but")) aNil)))) (aBin ModA (aVar 3) (aC (.int 3)))) (aCons (aVar 4) (aCons (aCall (sp_l_term n a) (fun ds _ => ds) 3 (aCons (aVar 0) (aCons (aVar 1) (aCons (aBin SubA (aVar 2) (aC (.int 1))) aNil)))) aNil)))))))))
theorem den_l_term (F : Fx P w K mg a) {n : Nat}
    (h_l_take : Fn1 P w K mg base "_law_take" 1 [] 2 0 (fun ds _ => ds) (sp_l_take a))
    (h_l_term : Fn1 P w K mg base "_law_term" (1 + n) [] 3 0 (fun ds _ => ds) (sp_l_term n a))
    {f : Addr} {cdv : Value} {A : Around} {outer : List Env} {s : Shared} {H : Hp} {E : XK} (hr : Room (1 + n) (A.deeper (envOfC "_law_term" (defScope s_l_term) s.heap.objs.size f cdv))) :
    DenB (cxOf (L2.CX P w) P w K mg base N_l_term "_law_term" (defScope s_l_term) f cdv A outer s H E) (defBody s_l_term) (t_l_term n a) :=
  (db_cons (ds_set 3 sc_l_term.nd (de_f h_l_take (hr.mono (by omega)) (da_cons (de_var 0) (da_cons de_int da_nil))))
  (db_cons (ds_if (DenW.t (dw_or (dt_cmp ok_lt (de_var 2) de_int) (dw_or1 (dt_cmp ok_lt (de_var 3) de_int)))) (db_cons (ds_set 5 sc_l_term.nd (de_bin ok_add (de_ct okc_list F.b_list boot_list (da_cons (de_var 1) da_nil)) (de_lst (da_cons (de_tup (da_cons de_str da_nil)) (da_cons (de_tup (da_cons de_str da_nil)) da_nil)))))
  (db_cons (ds_if (DenW.t (dw_and (dt_cmp ok_gt (de_cb okc_len F.b_len boot_len (da_cons (de_var 1) da_nil)) de_int) (dw_and1 (dt_cmp ok_gt (de_f h_l_take (hr.mono (by omega)) (da_cons (de_var 0) (da_cons de_int da_nil))) de_int)))) (db_one (ds_set 5 sc_l_term.nd (de_ct okc_list F.b_list boot_list (da_cons (de_var 1) da_nil)))) db_nil)
  (db_one (ds_ret (de_ix (de_var 5) (de_f h_l_take (hr.mono (by omega)) (da_cons (de_var 0) (da_cons (de_cb okc_len F.b_len boot_len (da_cons (de_var 5) da_nil)) da_nil)))))))) db_nil)
  (db_cons (ds_if (dt_cmp (ok_eq hr.units) (de_var 3) de_int) (db_one (ds_ret (de_tup (da_cons de_str (da_cons (de_f h_l_term (hr.mono (by omega)) (da_cons (de_var 0) (da_cons (de_var 1) (da_cons (de_bin ok_sub (de_var 2) de_int) da_nil)))) da_nil))))) db_nil)
  (db_cons (ds_set 4 sc_l_term.nd (de_f h_l_term (hr.mono (by omega)) (da_cons (de_var 0) (da_cons (de_var 1) (da_cons (de_bin ok_sub (de_var 2) de_int) da_nil)))))
  (db_one (ds_ret (de_tup (da_cons (de_ix (de_lst (da_cons de_str (da_cons de_str (da_cons de_str da_nil)))) (de_bin ok_mod (de_var 3) de_int)) (da_cons (de_var 4) (da_cons (de_f h_l_term (hr.mono (by omega)) (da_cons (de_var 0) (da_cons (de_var 1) (da_cons (de_bin ok_sub (de_var 2) de_int) da_nil)))) da_nil))))))))))
--@ _law_sum
abbrev s_l_sum : Stmt := topS 51
abbrev N_l_sum : List Str := ["_law_pool_here", "_law_tongue_here", "_law_many", "_law_top", "_law_found", "_law_k", "_law_way"]
theorem sc_l_sum : FnScope N_l_sum ["_law_pool_here", "_law_tongue_here", "_law_many", "_law_top"] (defScope s_l_sum) := ⟨rfl, rfl, rfl, by decide +kernel, rfl, by decide +kernel, by decide +kernel⟩
def t_l_sum (a : Ad) : AS :=
  (aSeq (aAsg (aLstM aNil) (gNameA 4))
  (aSeq (aFor (iRngA1 (aCons (aCall (sp_l_take a) (fun ds _ => ds) 2 (aCons (aVar 0) (aCons (aBin AddA (aVar 2) (aC (.int 1))) aNil))) aNil)) (gNameA 5)
  (aSeq (aAsg (aCall (sp_l_take a) (fun ds _ => ds) 2 (aCons (aVar 0) (aCons (aC (.int 4)) aNil))) (gNameA 6))
  (aIfS (aB (aBin EqA (aVar 6) (aC (.int 0))))
  (aDrop (aBM "list" AppA (aVar 4) (aCons (aTup (aCons (aC (.str "lot")) (aCons (aCall (sp_l_signed a) (fun ds _ => ds) 2 (aCons (aVar 0) (aCons (aVar 3) aNil))) aNil))) aNil)))
  (aIfS (aAnd (aB (aBin EqA (aVar 6) (aC (.int 1)))) (aB (aBin GtA (aCB LenA (aCons (aWk (aBin IxA (aVar 1) (aC (.int 1)))) aNil)) (aC (.int 0)))))
  (aDrop (aBM "list" AppA (aVar 4) (aCons (aTup (aCons (aC (.str "num")) (aCons (aCall (sp_l_signed a) (fun ds _ => ds) 2 (aCons (aVar 0) (aCons (aVar 3) aNil))) (aCons (aBin IxA (aWk (aBin IxA (aVar 1) (aC (.int 1)))) (aCall (sp_l_take a) (fun ds _ => ds) 2 (aCons (aVar 0) (aCons (aCB LenA (aCons (aWk (aBin IxA (aVar 1) (aC (.int 1)))) aNil)) aNil)))) aNil)))) aNil)))
  (aDrop (aBM "list" AppA (aVar 4) (aCons (aTup (aCons (aC (.str "size")) (aCons (aCall (sp_l_signed a) (fun ds _ => ds) 2 (aCons (aVar 0) (aCons (aVar 3) aNil))) (aCons (aCall (sp_l_term 3 a) (fun ds _ => ds) 3 (aCons (aVar 0) (aCons (aWk (aBin IxA (aVar 1) (aC (.int 0)))) (aCons (aC (.int 3)) aNil)))) aNil)))) aNil)))))))
  (aRet (aCB TupleA (aCons (aVar 4) aNil)))))
theorem den_l_sum (F : Fx P w K mg a) 
    (h_l_take : Fn1 P w K mg base "_law_take" 1 [] 2 0 (fun ds _ => ds) (sp_l_take a))
    (h_l_signed : Fn1 P w K mg base "_law_signed" 2 [] 2 0 (fun ds _ => ds) (sp_l_signed a))
    (h_l_term : Fn1 P w K mg base "_law_term" 4 [] 3 0 (fun ds _ => ds) (sp_l_term 3 a))
    {f : Addr} {cdv : Value} {A : Around} {outer : List Env} {s : Shared} {H : Hp} {E : XK} (hr : Room 4 (A.deeper (envOfC "_law_sum" (defScope s_l_sum) s.heap.objs.size f cdv))) :
    DenB (cxOf (L2.CX P w) P w K mg base N_l_sum "_law_sum" (defScope s_l_sum) f cdv A outer s H E) (defBody s_l_sum) (t_l_sum a) :=
  (db_cons (ds_set 4 sc_l_sum.nd (de_lstM da_nil))
  (db_cons (ds_for (passes_of rfl) rfl (di_range1 F.b_range (da_cons (de_f h_l_take (hr.mono (by decide)) (da_cons (de_var 0) (da_cons (de_bin ok_add (de_var 2) de_int) da_nil))) da_nil)) (dg_name 5 sc_l_sum.nd) (db_cons (ds_set 6 sc_l_sum.nd (de_f h_l_take (hr.mono (by decide)) (da_cons (de_var 0) (da_cons de_int da_nil))))
  (db_one (ds_if (dt_cmp (ok_eq hr.units) (de_var 6) de_int) (db_one (ds_expr (de_bm PySem.F.plainAttrs_list PySem.F.slot_list_append PySem.F.type_list_append okm_append (de_var 4) (da_cons (de_tup (da_cons de_str (da_cons (de_f h_l_signed (hr.mono (by decide)) (da_cons (de_var 0) (da_cons (de_var 3) da_nil))) da_nil))) da_nil)))) (db_one (ds_if (DenW.t (dw_and (dt_cmp (ok_eq hr.units) (de_var 6) de_int) (dw_and1 (dt_cmp ok_gt (de_cb okc_len F.b_len boot_len (da_cons (de_wk (de_ix (de_var 1) de_int)) da_nil)) de_int)))) (db_one (ds_expr (de_bm PySem.F.plainAttrs_list PySem.F.slot_list_append PySem.F.type_list_append okm_append (de_var 4) (da_cons (de_tup (da_cons de_str (da_cons (de_f h_l_signed (hr.mono (by decide)) (da_cons (de_var 0) (da_cons (de_var 3) da_nil))) (da_cons (de_ix (de_wk (de_ix (de_var 1) de_int)) (de_f h_l_take (hr.mono (by decide)) (da_cons (de_var 0) (da_cons (de_cb okc_len F.b_len boot_len (da_cons (de_wk (de_ix (de_var 1) de_int)) da_nil)) da_nil)))) da_nil)))) da_nil)))) (db_one (ds_expr (de_bm PySem.F.plainAttrs_list PySem.F.slot_list_append PySem.F.type_list_append okm_append (de_var 4) (da_cons (de_tup (da_cons de_str (da_cons (de_f h_l_signed (hr.mono (by decide)) (da_cons (de_var 0) (da_cons (de_var 3) da_nil))) (da_cons (de_f h_l_term (hr.mono (by decide)) (da_cons (de_var 0) (da_cons (de_wk (de_ix (de_var 1) de_int)) (da_cons de_int da_nil)))) da_nil)))) da_nil))))))))))
  (db_one (ds_ret (de_ct okc_tuple F.b_tuple boot_tuple (da_cons (de_var 4) da_nil))))))
--@ _law_leaf
abbrev s_l_leaf : Stmt := topS 52
abbrev N_l_leaf : List Str := ["_law_pool_here", "_law_tongue_here", "_law_many", "_law_top", "_law_way", "_law_term_here"]
theorem sc_l_leaf : FnScope N_l_leaf ["_law_pool_here", "_law_tongue_here", "_law_many", "_law_top"] (defScope s_l_leaf) := ⟨rfl, rfl, rfl, by decide +kernel, rfl, by decide +kernel, by decide +kernel⟩
def t_l_leaf (a : Ad) : AS :=
  (aSeq (aAsg (aCall (sp_l_take a) (fun ds _ => ds) 2 (aCons (aVar 0) (aCons (aC (.int 6)) aNil))) (gNameA 4))
  (aSeq (aIfS (aB (aBin LtA (aVar 4) (aC (.int 2))))
  (aRet (aTup (aCons (aBin IxA (aLst (aCons (aC (.str "atmost")) (aCons (aC (.str "equal")) aNil))) (aVar 4)) (aCons (aCall (sp_l_sum a) (fun ds _ => ds) 4 (aCons (aVar 0) (aCons (aVar 1) (aCons (aVar 2) (aCons (aVar 3) aNil))))) (aCons (aCall (sp_l_sum a) (fun ds _ => ds) 4 (aCons (aVar 0) (aCons (aVar 1) (aCons (aVar 2) (aCons (aVar 3) aNil))))) aNil)))))
  aNext)
  (aSeq (aIfS (aB (aBin EqA (aVar 4) (aC (.int 2))))
  (aRet (aTup (aCons (aC (.str "parts")) (aCons (aBin AddA (aC (.int 2)) (aCall (sp_l_take a) (fun ds _ => ds) 2 (aCons (aVar 0) (aCons (aC (.int 8)) aNil)))) (aCons (aCall (sp_l_sum a) (fun ds _ => ds) 4 (aCons (aVar 0) (aCons (aVar 1) (aCons (aVar 2) (aCons (aVar 3) aNil))))) aNil)))))
  aNext)
  (aSeq (aIfS (aB (aBin EqA (aVar 4) (aC (.int 3))))
  (aRet (aTup (aCons (aBin IxA (aLst (aCons (aC (.str "within")) (aCons (aC (.str "same")) aNil))) (aCall (sp_l_take a) (fun ds _ => ds) 2 (aCons (aVar 0) (aCons (aC (.int 2)) aNil)))) (aCons (aCall (sp_l_term 3 a) (fun ds _ => ds) 3 (aCons (aVar 0) (aCons (aWk (aBin IxA (aVar 1) (aC (.int 0)))) (aCons (aC (.int 3)) aNil)))) (aCons (aCall (sp_l_term 3 a) (fun ds _ => ds) 3 (aCons (aVar 0) (aCons (aWk (aBin IxA (aVar 1) (aC (.int 0)))) (aCons (aC (.int 3)) aNil)))) aNil)))))
  aNext)
  (aSeq (aAsg (aTup (aCons (aC (.str "size")) (aCons (aC (.int 1)) (aCons (aCall (sp_l_term 3 a) (fun ds _ => ds) 3 (aCons (aVar 0) (aCons (aWk (aBin IxA (aVar 1) (aC (.int 0)))) (aCons (aC (.int 3)) aNil)))) aNil)))) (gNameA 5))
  (aSeq (aIfS (aB (aBin EqA (aCall (sp_l_take a) (fun ds _ => ds) 2 (aCons (aVar 0) (aCons (aC (.int 2)) aNil))) (aC (.int 0))))
  (aRet (aTup (aCons (aC (.str "atmost")) (aCons (aTup (aCons (aTup (aCons (aC (.str "lot")) (aCons (aCall (sp_l_take a) (fun ds _ => ds) 2 (aCons (aVar 0) (aCons (aBin AddA (aVar 3) (aC (.int 1))) aNil))) aNil))) aNil)) (aCons (aTup (aCons (aVar 5) aNil)) aNil)))))
  aNext)
  (aRet (aTup (aCons (aBin IxA (aLst (aCons (aC (.str "atmost")) (aCons (aC (.str "equal")) aNil))) (aCall (sp_l_take a) (fun ds _ => ds) 2 (aCons (aVar 0) (aCons (aC (.int 2)) aNil)))) (aCons (aTup (aCons (aVar 5) aNil)) (aCons (aTup (aCons (aTup (aCons (aC (.str "lot")) (aCons (aCall (sp_l_take a) (fun ds _ => ds) 2 (aCons (aVar 0) (aCons (aBin AddA (aVar 3) (aC (.int 1))) aNil))) aNil))) aNil)) aNil)))))))))))
theorem den_l_leaf (F : Fx P w K mg a) 
    (h_l_take : Fn1 P w K mg base "_law_take" 1 [] 2 0 (fun ds _ => ds) (sp_l_take a))
    (h_l_sum : Fn1 P w K mg base "_law_sum" 5 [] 4 0 (fun ds _ => ds) (sp_l_sum a))
    (h_l_term : Fn1 P w K mg base "_law_term" 4 [] 3 0 (fun ds _ => ds) (sp_l_term 3 a))
    {f : Addr} {cdv : Value} {A : Around} {outer : List Env} {s : Shared} {H : Hp} {E : XK} (hr : Room 5 (A.deeper (envOfC "_law_leaf" (defScope s_l_leaf) s.heap.objs.size f cdv))) :
    DenB (cxOf (L2.CX P w) P w K mg base N_l_leaf "_law_leaf" (defScope s_l_leaf) f cdv A outer s H E) (defBody s_l_leaf) (t_l_leaf a) :=
  (db_cons (ds_set 4 sc_l_leaf.nd (de_f h_l_take (hr.mono (by decide)) (da_cons (de_var 0) (da_cons de_int da_nil))))
  (db_cons (ds_if (dt_cmp ok_lt (de_var 4) de_int) (db_one (ds_ret (de_tup (da_cons (de_ix (de_lst (da_cons de_str (da_cons de_str da_nil))) (de_var 4)) (da_cons (de_f h_l_sum (hr.mono (by decide)) (da_cons (de_var 0) (da_cons (de_var 1) (da_cons (de_var 2) (da_cons (de_var 3) da_nil))))) (da_cons (de_f h_l_sum (hr.mono (by decide)) (da_cons (de_var 0) (da_cons (de_var 1) (da_cons (de_var 2) (da_cons (de_var 3) da_nil))))) da_nil)))))) db_nil)
  (db_cons (ds_if (dt_cmp (ok_eq hr.units) (de_var 4) de_int) (db_one (ds_ret (de_tup (da_cons de_str (da_cons (de_bin ok_add de_int (de_f h_l_take (hr.mono (by decide)) (da_cons (de_var 0) (da_cons de_int da_nil)))) (da_cons (de_f h_l_sum (hr.mono (by decide)) (da_cons (de_var 0) (da_cons (de_var 1) (da_cons (de_var 2) (da_cons (de_var 3) da_nil))))) da_nil)))))) db_nil)
  (db_cons (ds_if (dt_cmp (ok_eq hr.units) (de_var 4) de_int) (db_one (ds_ret (de_tup (da_cons (de_ix (de_lst (da_cons de_str (da_cons de_str da_nil))) (de_f h_l_take (hr.mono (by decide)) (da_cons (de_var 0) (da_cons de_int da_nil)))) (da_cons (de_f h_l_term (hr.mono (by decide)) (da_cons (de_var 0) (da_cons (de_wk (de_ix (de_var 1) de_int)) (da_cons de_int da_nil)))) (da_cons (de_f h_l_term (hr.mono (by decide)) (da_cons (de_var 0) (da_cons (de_wk (de_ix (de_var 1) de_int)) (da_cons de_int da_nil)))) da_nil)))))) db_nil)
  (db_cons (ds_set 5 sc_l_leaf.nd (de_tup (da_cons de_str (da_cons de_int (da_cons (de_f h_l_term (hr.mono (by decide)) (da_cons (de_var 0) (da_cons (de_wk (de_ix (de_var 1) de_int)) (da_cons de_int da_nil)))) da_nil)))))
  (db_cons (ds_if (dt_cmp (ok_eq hr.units) (de_f h_l_take (hr.mono (by decide)) (da_cons (de_var 0) (da_cons de_int da_nil))) de_int) (db_one (ds_ret (de_tup (da_cons de_str (da_cons (de_tup (da_cons (de_tup (da_cons de_str (da_cons (de_f h_l_take (hr.mono (by decide)) (da_cons (de_var 0) (da_cons (de_bin ok_add (de_var 3) de_int) da_nil))) da_nil))) da_nil)) (da_cons (de_tup (da_cons (de_var 5) da_nil)) da_nil)))))) db_nil)
  (db_one (ds_ret (de_tup (da_cons (de_ix (de_lst (da_cons de_str (da_cons de_str da_nil))) (de_f h_l_take (hr.mono (by decide)) (da_cons (de_var 0) (da_cons de_int da_nil)))) (da_cons (de_tup (da_cons (de_var 5) da_nil)) (da_cons (de_tup (da_cons (de_tup (da_cons de_str (da_cons (de_f h_l_take (hr.mono (by decide)) (da_cons (de_var 0) (da_cons (de_bin ok_add (de_var 3) de_int) da_nil))) da_nil))) da_nil)) da_nil))))))))))))
--@ _law_saying
abbrev s_l_saying : Stmt := topS 53
abbrev N_l_saying : List Str := ["_law_pool_here", "_law_tongue_here", "_law_deep", "_law_many", "_law_top", "_law_way", "_law_one"]
theorem sc_l_saying : FnScope N_l_saying ["_law_pool_here", "_law_tongue_here", "_law_deep", "_law_many", "_law_top"] (defScope s_l_saying) := ⟨rfl, rfl, rfl, by decide +kernel, rfl, by decide +kernel, by decide +kernel⟩
def t_l_saying (n : Nat) (a : Ad) : AS :=
  (aSeq (aAsg (aCall (sp_l_take a) (fun ds _ => ds) 2 (aCons (aVar 0) (aCons (aC (.int 7)) aNil))) (gNameA 5))
  (aSeq (aIfS (aOr (aB (aBin LtA (aVar 2) (aC (.int 2)))) (aB (aBin LtA (aVar 5) (aC (.int 3)))))
  (aRet (aCall (sp_l_leaf a) (fun ds _ => ds) 4 (aCons (aVar 0) (aCons (aVar 1) (aCons (aVar 3) (aCons (aVar 4) aNil))))))
  aNext)
  (aSeq (aIfS (aB (aBin EqA (aVar 5) (aC (.int 3))))
  (aRet (aTup (aCons (aC (.str "not")) (aCons (aCall (sp_l_saying n a) (fun ds _ => ds) 5 (aCons (aVar 0) (aCons (aVar 1) (aCons (aBin SubA (aVar 2) (aC (.int 1))) (aCons (aVar 3) (aCons (aVar 4) aNil)))))) aNil))))
  aNext)
  (aSeq (aAsg (aCall (sp_l_saying n a) (fun ds _ => ds) 5 (aCons (aVar 0) (aCons (aVar 1) (aCons (aBin SubA (aVar 2) (aC (.int 1))) (aCons (aVar 3) (aCons (aVar 4) aNil)))))) (gNameA 6))
  (aRet (aTup (aCons (aBin IxA (aLst (aCons (aC (.str "both")) (aCons (aC (.str "either")) aNil))) (aBin ModA (aVar 5) (aC (.int 2)))) (aCons (aVar 6) (aCons (aCall (sp_l_saying n a) (fun ds _ => ds) 5 (aCons (aVar 0) (aCons (aVar 1) (aCons (aBin SubA (aVar 2) (aC (.int 1))) (aCons (aVar 3) (aCons (aVar 4) aNil)))))) aNil)))))))))
theorem den_l_saying (F : Fx P w K mg a) {n : Nat}
    (h_l_take : Fn1 P w K mg base "_law_take" 1 [] 2 0 (fun ds _ => ds) (sp_l_take a))
    (h_l_leaf : Fn1 P w K mg base "_law_leaf" 6 [] 4 0 (fun ds _ => ds) (sp_l_leaf a))
    (h_l_saying : Fn1 P w K mg base "_law_saying" (6 + n) [] 5 0 (fun ds _ => ds) (sp_l_saying n a))
    {f : Addr} {cdv : Value} {A : Around} {outer : List Env} {s : Shared} {H : Hp} {E : XK} (hr : Room (6 + n) (A.deeper (envOfC "_law_saying" (defScope s_l_saying) s.heap.objs.size f cdv))) :
    DenB (cxOf (L2.CX P w) P w K mg base N_l_saying "_law_saying" (defScope s_l_saying) f cdv A outer s H E) (defBody s_l_saying) (t_l_saying n a) :=
  (db_cons (ds_set 5 sc_l_saying.nd (de_f h_l_take (hr.mono (by omega)) (da_cons (de_var 0) (da_cons de_int da_nil))))
  (db_cons (ds_if (DenW.t (dw_or (dt_cmp ok_lt (de_var 2) de_int) (dw_or1 (dt_cmp ok_lt (de_var 5) de_int)))) (db_one (ds_ret (de_f h_l_leaf (hr.mono (by omega)) (da_cons (de_var 0) (da_cons (de_var 1) (da_cons (de_var 3) (da_cons (de_var 4) da_nil))))))) db_nil)
  (db_cons (ds_if (dt_cmp (ok_eq hr.units) (de_var 5) de_int) (db_one (ds_ret (de_tup (da_cons de_str (da_cons (de_f h_l_saying (hr.mono (by omega)) (da_cons (de_var 0) (da_cons (de_var 1) (da_cons (de_bin ok_sub (de_var 2) de_int) (da_cons (de_var 3) (da_cons (de_var 4) da_nil)))))) da_nil))))) db_nil)
  (db_cons (ds_set 6 sc_l_saying.nd (de_f h_l_saying (hr.mono (by omega)) (da_cons (de_var 0) (da_cons (de_var 1) (da_cons (de_bin ok_sub (de_var 2) de_int) (da_cons (de_var 3) (da_cons (de_var 4) da_nil)))))))
  (db_one (ds_ret (de_tup (da_cons (de_ix (de_lst (da_cons de_str (da_cons de_str da_nil))) (de_bin ok_mod (de_var 5) de_int)) (da_cons (de_var 6) (da_cons (de_f h_l_saying (hr.mono (by omega)) (da_cons (de_var 0) (da_cons (de_var 1) (da_cons (de_bin ok_sub (de_var 2) de_int) (da_cons (de_var 3) (da_cons (de_var 4) da_nil)))))) da_nil))))))))))
--@ _law_cases_many
abbrev s_l_cases_many : Stmt := topS 54
abbrev N_l_cases_many : List Str := ["_law_claim", "_law_one", "_law_other"]
theorem sc_l_cases_many : FnScope N_l_cases_many ["_law_claim"] (defScope s_l_cases_many) := ⟨rfl, rfl, rfl, by decide +kernel, rfl, by decide +kernel, by decide +kernel⟩
def t_l_cases_many (n : Nat) (a : Ad) : AS :=
  (aSeq (aIfS (aB (aBin EqA (aBin IxA (aVar 0) (aC (.int 0))) (aC (.str "not"))))
  (aSeq (aAsg (aCall (sp_l_cases_many n a) (fun ds _ => ds) 1 (aCons (aBin IxA (aVar 0) (aC (.int 1))) aNil)) (gNameA 1))
  (aRet (aTup (aCons (aBin IxA (aVar 1) (aC (.int 1))) (aCons (aBin IxA (aVar 1) (aC (.int 0))) aNil)))))
  aNext)
  (aSeq (aIfS (aB (aBin InA (aBin IxA (aVar 0) (aC (.int 0))) (aTup (aCons (aC (.str "both")) (aCons (aC (.str "either")) aNil)))))
  (aSeq (aAsg (aCall (sp_l_cases_many n a) (fun ds _ => ds) 1 (aCons (aBin IxA (aVar 0) (aC (.int 1))) aNil)) (gNameA 1))
  (aSeq (aAsg (aCall (sp_l_cases_many n a) (fun ds _ => ds) 1 (aCons (aBin IxA (aVar 0) (aC (.int 2))) aNil)) (gNameA 2))
  (aSeq (aIfS (aB (aBin EqA (aBin IxA (aVar 0) (aC (.int 0))) (aC (.str "both"))))
  (aRet (aTup (aCons (aBin MulA (aBin IxA (aVar 1) (aC (.int 0))) (aBin IxA (aVar 2) (aC (.int 0)))) (aCons (aBin AddA (aBin IxA (aVar 1) (aC (.int 1))) (aBin IxA (aVar 2) (aC (.int 1)))) aNil))))
  aNext)
  (aRet (aTup (aCons (aBin AddA (aBin IxA (aVar 1) (aC (.int 0))) (aBin IxA (aVar 2) (aC (.int 0)))) (aCons (aBin MulA (aBin IxA (aVar 1) (aC (.int 1))) (aBin IxA (aVar 2) (aC (.int 1)))) aNil)))))))
  aNext)
  (aRet (aTup (aCons (aC (.int 1)) (aCons (aBin AddA (aC (.int 1)) (aCB IntA (aCons (aBin EqA (aBin IxA (aVar 0) (aC (.int 0))) (aC (.str "equal"))) aNil))) aNil))))))
theorem den_l_cases_many (F : Fx P w K mg a) {n : Nat}
    (h_l_cases_many : Fn1 P w K mg base "_law_cases_many" (0 + n) [] 1 0 (fun ds _ => ds) (sp_l_cases_many n a))
    {f : Addr} {cdv : Value} {A : Around} {outer : List Env} {s : Shared} {H : Hp} {E : XK} (hr : Room (0 + n) (A.deeper (envOfC "_law_cases_many" (defScope s_l_cases_many) s.heap.objs.size f cdv))) :
    DenB (cxOf (L2.CX P w) P w K mg base N_l_cases_many "_law_cases_many" (defScope s_l_cases_many) f cdv A outer s H E) (defBody s_l_cases_many) (t_l_cases_many n a) :=
  (db_cons (ds_if (dt_cmp (ok_eq hr.units) (de_ix (de_var 0) de_int) de_str) (db_cons (ds_set 1 sc_l_cases_many.nd (de_f h_l_cases_many (hr.mono (by omega)) (da_cons (de_ix (de_var 0) de_int) da_nil)))
  (db_one (ds_ret (de_tup (da_cons (de_ix (de_var 1) de_int) (da_cons (de_ix (de_var 1) de_int) da_nil)))))) db_nil)
  (db_cons (ds_if (dt_cmp ok_in (de_ix (de_var 0) de_int) (de_tup (da_cons de_str (da_cons de_str da_nil)))) (db_cons (ds_set 1 sc_l_cases_many.nd (de_f h_l_cases_many (hr.mono (by omega)) (da_cons (de_ix (de_var 0) de_int) da_nil)))
  (db_cons (ds_set 2 sc_l_cases_many.nd (de_f h_l_cases_many (hr.mono (by omega)) (da_cons (de_ix (de_var 0) de_int) da_nil)))
  (db_cons (ds_if (dt_cmp (ok_eq hr.units) (de_ix (de_var 0) de_int) de_str) (db_one (ds_ret (de_tup (da_cons (de_bin ok_mul (de_ix (de_var 1) de_int) (de_ix (de_var 2) de_int)) (da_cons (de_bin ok_add (de_ix (de_var 1) de_int) (de_ix (de_var 2) de_int)) da_nil))))) db_nil)
  (db_one (ds_ret (de_tup (da_cons (de_bin ok_add (de_ix (de_var 1) de_int) (de_ix (de_var 2) de_int)) (da_cons (de_bin ok_mul (de_ix (de_var 1) de_int) (de_ix (de_var 2) de_int)) da_nil)))))))) db_nil)
  (db_one (ds_ret (de_tup (da_cons de_int (da_cons (de_bin ok_add de_int (de_ct okc_int F.b_int boot_int (da_cons (de_cmp (ok_eq hr.units) (de_ix (de_var 0) de_int) de_str) da_nil))) da_nil)))))))
--@ _law_cases_all
abbrev s_l_cases_all : Stmt := topS 55
abbrev N_l_cases_all : List Str := ["_law_claims_here", "_law_many", "_law_claim"]
theorem sc_l_cases_all : FnScope N_l_cases_all ["_law_claims_here"] (defScope s_l_cases_all) := ⟨rfl, rfl, rfl, by decide +kernel, rfl, by decide +kernel, by decide +kernel⟩
def t_l_cases_all (a : Ad) : AS :=
  (aSeq (aAsg (aC (.int 1)) (gNameA 1))
  (aSeq (aForC (iSeqA (aVar 0)) (gNameA 2)
  (aAsg (aBin MulA (aVar 1) (aBin IxA (aCall (sp_l_cases_many 6 a) (fun ds _ => ds) 1 (aCons (aVar 2) aNil)) (aC (.int 0)))) (gNameA 1)))
  (aRet (aVar 1))))
theorem den_l_cases_all (F : Fx P w K mg a) 
    (h_l_cases_many : Fn1 P w K mg base "_law_cases_many" 6 [] 1 0 (fun ds _ => ds) (sp_l_cases_many 6 a))
    {f : Addr} {cdv : Value} {A : Around} {outer : List Env} {s : Shared} {H : Hp} {E : XK} (hr : Room 6 (A.deeper (envOfC "_law_cases_all" (defScope s_l_cases_all) s.heap.objs.size f cdv))) :
    DenB (cxOf (L2.CX P w) P w K mg base N_l_cases_all "_law_cases_all" (defScope s_l_cases_all) f cdv A outer s H E) (defBody s_l_cases_all) (t_l_cases_all a) :=
  (db_cons (ds_set 1 sc_l_cases_all.nd de_int)
  (db_cons (ds_forC (passes_of rfl) rfl (di_seq (de_var 0)) (dg_name 2 sc_l_cases_all.nd) (db_one (ds_set 1 sc_l_cases_all.nd (de_bin ok_mul (de_var 1) (de_ix (de_f h_l_cases_many (hr.mono (by decide)) (da_cons (de_var 2) da_nil)) de_int)))))
  (db_one (ds_ret (de_var 1)))))
--@ _law_model
abbrev s_l_model : Stmt := topS 56
abbrev N_l_model : List Str := []
theorem sc_l_model : FnScope N_l_model [] (defScope s_l_model) := ⟨rfl, rfl, rfl, by decide +kernel, rfl, by decide +kernel, by decide +kernel⟩
def t_l_model (a : Ad) : AS :=
  (aRet (aDispM ["said", "next", "marks", "log"] (aCons aDicM (aCons (aC (.int 0)) (aCons (aLstM aNil) (aCons (aLstM aNil) aNil))))))
theorem den_l_model (F : Fx P w K mg a) 
    {f : Addr} {cdv : Value} {A : Around} {outer : List Env} {s : Shared} {H : Hp} {E : XK} (hr : Room 0 (A.deeper (envOfC "_law_model" (defScope s_l_model) s.heap.objs.size f cdv))) :
    DenB (cxOf (L2.CX P w) P w K mg base N_l_model "_law_model" (defScope s_l_model) f cdv A outer s H E) (defBody s_l_model) (t_l_model a) :=
  (db_one (ds_ret (de_dispM (dp_cons de_dicM (dp_cons de_int (dp_cons (de_lstM da_nil) (dp_cons (de_lstM da_nil) dp_nil)))))))
--@ _law_look
abbrev s_l_look : Stmt := topS 57
abbrev N_l_look : List Str := ["_law_store", "_law_model_here", "_law_many"]
theorem sc_l_look : FnScope N_l_look ["_law_store", "_law_model_here"] (defScope s_l_look) := ⟨rfl, rfl, rfl, by decide +kernel, rfl, by decide +kernel, by decide +kernel⟩
def t_l_look (a : Ad) : AS :=
  (aSeq (aAsg (aCB LenDA (aCons (aDGet (aVar 1) (aC (.str "said"))) aNil)) (gNameA 2))
  (aSeq (aIfS (aOr (aB (aBin NeA (aCB ReprDA (aCons (aMeth a.Store "standing" (sp_Store_standing a) (fun ds _ => ds) 1 0 (aVar 0) aNil aNil) aNil)) (aCB ReprDA (aCons (aDGet (aVar 1) (aC (.str "said"))) aNil)))) (aB (aBin NeA (aCB ReprIA (aCons (aCB (LenOwnA a.Store (sp_Store_len a)) (aCons (aVar 0) aNil)) aNil)) (aCB ReprIA (aCons (aVar 2) aNil)))))
  (aRet (aC (.bl false)))
  aNext)
  (aRet (aBin EqA (aCB (ReprOwnA a.Store (sp_Store_repr a)) (aCons (aVar 0) aNil)) (aBM "str" JoinA (aC (.str "")) (aCons (aLst (aCons (aC (.str "Store(")) (aCons (aCB StrA (aCons (aVar 2) aNil)) (aCons (aC (.str " sayings)")) aNil)))) aNil))))))
theorem den_l_look (F : Fx P w K mg a) 
    (h_Store_standing : Mt1 P w K mg base a.Store "standing" 1 [] 1 0 (fun ds _ => ds) (sp_Store_standing a))
    (ho_Store_len : Own1 P w K mg base a.Store "__len__" 1 1 (sp_Store_len a))
    (ho_Store_repr : Own1 P w K mg base a.Store "__repr__" 1 1 (sp_Store_repr a))
    {f : Addr} {cdv : Value} {A : Around} {outer : List Env} {s : Shared} {H : Hp} {E : XK} (hr : Room 2 (A.deeper (envOfC "_law_look" (defScope s_l_look) s.heap.objs.size f cdv))) (hgd : A.guards = some []) :
    DenB (cxOf (L2.CX P w) P w K mg base N_l_look "_law_look" (defScope s_l_look) f cdv A outer s H E) (defBody s_l_look) (t_l_look a) :=
  (db_cons (ds_set 2 sc_l_look.nd (de_cb okc_lenD F.b_len boot_len (da_cons (de_dget hr.units1 (de_var 1) de_str) da_nil)))
  (db_cons (ds_if (DenW.t (dw_or (dt_cmp (ok_ne hr.units) (de_cb (okc_reprD hgd hr.u200) F.b_repr boot_repr (da_cons (de_m0 h_Store_standing (hr.mono (by decide)) (de_var 0)) da_nil)) (de_cb (okc_reprD hgd hr.u200) F.b_repr boot_repr (da_cons (de_dget hr.units1 (de_var 1) de_str) da_nil))) (dw_or1 (dt_cmp (ok_ne hr.units) (de_cb okc_reprI F.b_repr boot_repr (da_cons (de_cb (okc_lenOwn ho_Store_len (hr.mono (by decide))) F.b_len boot_len (da_cons (de_var 0) da_nil)) da_nil)) (de_cb okc_reprI F.b_repr boot_repr (da_cons (de_var 2) da_nil)))))) (db_one (ds_ret de_bl)) db_nil)
  (db_one (ds_ret (de_cmp (ok_eq hr.units) (de_cb (okc_reprOwn ho_Store_repr (hr.mono (by decide))) F.b_repr boot_repr (da_cons (de_var 0) da_nil)) (de_bm PySem.F.plainAttrs_str PySem.F.slot_str_join PySem.F.type_str_join okm_join de_str (da_cons (de_lst (da_cons de_str (da_cons (de_ct okc_str F.b_str boot_str (da_cons (de_var 2) da_nil)) (da_cons de_str da_nil)))) da_nil)))))))
--@ _law_copy
abbrev s_l_copy : Stmt := topS 58
abbrev N_l_copy : List Str := ["_law_model_here", "_law_marks", "_law_pile"]
theorem sc_l_copy : FnScope N_l_copy ["_law_model_here"] (defScope s_l_copy) := ⟨rfl, rfl, rfl, by decide +kernel, rfl, by decide +kernel, by decide +kernel⟩
def t_l_copy (a : Ad) : AS :=
  (aSeq (aAsg (aLcC [2] (iMemA (aDGet (aVar 0) (aC (.str "marks")))) (gNameA 2) aYes (aCB DictMA (aCons (aVar 2) aNil)) rMut) (gNameA 1))
  (aRet (aDispM ["said", "next", "marks", "log"] (aCons (aCB DictMA (aCons (aDGet (aVar 0) (aC (.str "said"))) aNil)) (aCons (aDGet (aVar 0) (aC (.str "next"))) (aCons (aVar 1) (aCons (aCB ListMA (aCons (aDGet (aVar 0) (aC (.str "log"))) aNil)) aNil)))))))
theorem den_l_copy (F : Fx P w K mg a) 
    {f : Addr} {cdv : Value} {A : Around} {outer : List Env} {s : Shared} {H : Hp} {E : XK} (hr : Room 0 (A.deeper (envOfC "_law_copy" (defScope s_l_copy) s.heap.objs.size f cdv))) :
    DenB (cxOf (L2.CX P w) P w K mg base N_l_copy "_law_copy" (defScope s_l_copy) f cdv A outer s H E) (defBody s_l_copy) (t_l_copy a) :=
  (db_cons (ds_setLcC (own := [("_law_pile", 2)]) true 1 rfl rfl sc_l_copy.nd (blkOk_by (own := [("_law_pile", 2)]) (N := N_l_copy) (sc := defScope s_l_copy) (by decide +kernel)) (di_mem (de_dget hr.units1 (de_var 0) de_str)) (fun _ _ _ _ _ => (dg_name 2 sc_l_copy.nd)) (fun _ _ _ _ _ => dts_nil) (fun _ _ _ _ _ => (de_ct okc_dictM F.b_dict boot_dict (da_cons (de_var 2) da_nil))) (sw_true rfl rfl rfl (by decide +kernel)))
  (db_one (ds_ret (de_dispM (dp_cons (de_ct okc_dictM F.b_dict boot_dict (da_cons (de_dget hr.units1 (de_var 0) de_str) da_nil)) (dp_cons (de_dget hr.units1 (de_var 0) de_str) (dp_cons (de_var 1) (dp_cons (de_ct okc_listM F.b_list boot_list (da_cons (de_dget hr.units1 (de_var 0) de_str) da_nil)) dp_nil))))))))
--@ _law_alike
abbrev s_l_alike : Stmt := topS 59
abbrev N_l_alike : List Str := ["_law_stores", "_law_models", "_law_one", "_law_ours", "_law_other", "_law_theirs", "_law_due"]
theorem sc_l_alike : FnScope N_l_alike ["_law_stores", "_law_models"] (defScope s_l_alike) := ⟨rfl, rfl, rfl, by decide +kernel, rfl, by decide +kernel, by decide +kernel⟩
def t_l_alike (a : Ad) : AS :=
  (aSeq (aForC (iZipM (aCons (aVar 0) (aCons (aVar 1) aNil))) (gTupA 2 (gConsA (gNameA 2) (gConsA (gNameA 3) gNilA)))
  (aSeq (aForC (iZipM (aCons (aVar 0) (aCons (aVar 1) aNil))) (gTupA 2 (gConsA (gNameA 4) (gConsA (gNameA 5) gNilA)))
  (aSeq (aAsg (aBin EqA (aListV (aDGet (aVar 3) (aC (.str "said")))) (aListV (aDGet (aVar 5) (aC (.str "said"))))) (gNameA 6))
  (aIfS (aB (aBin NeA (aCB ReprBA (aCons (aBin (EqOwnA a.Store (sp_Store_eq a)) (aVar 2) (aVar 4)) aNil)) (aCB ReprBA (aCons (aVar 6) aNil))))
  (aRet (aC (.bl false)))
  aNext)))
  (aSeq (aIfS (aOr (aB (aBin (EqOwnA a.Store (sp_Store_eq a)) (aVar 2) (aCB (ReprOwnA a.Store (sp_Store_repr a)) (aCons (aVar 2) aNil)))) (aOr (aB (aBin (EqOwnA a.Store (sp_Store_eq a)) (aVar 2) (aDGet (aVar 3) (aC (.str "said"))))) (aOr (aB (aBin (EqOwnA a.Store (sp_Store_eq a)) (aVar 2) (aC (.int 3)))) (aNot (aTru (aCall (sp_l_look a) (fun ds _ => ds) 2 (aCons (aVar 2) (aCons (aVar 3) aNil))))))))
  (aRet (aC (.bl false)))
  aNext)
  (aIfS (aB (aBin NeA (aCB ReprA (aCons (aMeth a.Store "log" (sp_Store_log a) (fun ds _ => ds) 1 0 (aVar 2) aNil aNil) aNil)) (aCB ReprA (aCons (aCB TupleA (aCons (aDGet (aVar 3) (aC (.str "log"))) aNil)) aNil))))
  (aRet (aC (.bl false)))
  aNext))))
  (aRet (aC (.bl true))))
theorem den_l_alike (F : Fx P w K mg a) 
    (ho_Store_eq : Own1 P w K mg base a.Store "__eq__" 3 2 (sp_Store_eq a))
    (ho_Store_repr : Own1 P w K mg base a.Store "__repr__" 1 1 (sp_Store_repr a))
    (h_l_look : Fn1G P w K mg base "_law_look" 3 [] 2 0 (fun ds _ => ds) (sp_l_look a))
    (h_Store_log : Mt1 P w K mg base a.Store "log" 1 [] 1 0 (fun ds _ => ds) (sp_Store_log a))
    {f : Addr} {cdv : Value} {A : Around} {outer : List Env} {s : Shared} {H : Hp} {E : XK} (hr : Room 4 (A.deeper (envOfC "_law_alike" (defScope s_l_alike) s.heap.objs.size f cdv))) (hgd : A.guards = some []) :
    DenB (cxOf (L2.CX P w) P w K mg base N_l_alike "_law_alike" (defScope s_l_alike) f cdv A outer s H E) (defBody s_l_alike) (t_l_alike a) :=
  (db_cons (ds_forC (passes_of rfl) rfl (di_zipM F.b_zip (da_cons (de_var 0) (da_cons (de_var 1) da_nil))) (dg_tup rfl (dgs_cons (dg_name 2 sc_l_alike.nd) (dgs_cons (dg_name 3 sc_l_alike.nd) dgs_nil))) (db_cons (ds_forC (passes_of rfl) rfl (di_zipM F.b_zip (da_cons (de_var 0) (da_cons (de_var 1) da_nil))) (dg_tup rfl (dgs_cons (dg_name 4 sc_l_alike.nd) (dgs_cons (dg_name 5 sc_l_alike.nd) dgs_nil))) (db_cons (ds_set 6 sc_l_alike.nd (de_cmp (ok_eq hr.units) (de_listV rfl (de_dget hr.units1 (de_var 3) de_str) F.b_list boot_list) (de_listV rfl (de_dget hr.units1 (de_var 5) de_str) F.b_list boot_list)))
  (db_one (ds_if (dt_cmp (ok_ne hr.units) (de_cb okc_reprB F.b_repr boot_repr (da_cons (de_cmp (ok_eqOwn ho_Store_eq (hr.mono (by decide)) F.si_Store F.ss_Store F.sd_Store) (de_var 2) (de_var 4)) da_nil)) (de_cb okc_reprB F.b_repr boot_repr (da_cons (de_var 6) da_nil))) (db_one (ds_ret de_bl)) db_nil))))
  (db_cons (ds_if (DenW.t (dw_or (dt_cmp (ok_eqOwn ho_Store_eq (hr.mono (by decide)) F.si_Store F.ss_Store F.sd_Store) (de_var 2) (de_cb (okc_reprOwn ho_Store_repr (hr.mono (by decide))) F.b_repr boot_repr (da_cons (de_var 2) da_nil))) (dw_or (dt_cmp (ok_eqOwn ho_Store_eq (hr.mono (by decide)) F.si_Store F.ss_Store F.sd_Store) (de_var 2) (de_dget hr.units1 (de_var 3) de_str)) (dw_or (dt_cmp (ok_eqOwn ho_Store_eq (hr.mono (by decide)) F.si_Store F.ss_Store F.sd_Store) (de_var 2) de_int) (dw_or1 (dt_not (dt_tru (de_fG h_l_look hgd (hr.mono (by decide)) (da_cons (de_var 2) (da_cons (de_var 3) da_nil)))))))))) (db_one (ds_ret de_bl)) db_nil)
  (db_one (ds_if (dt_cmp (ok_ne hr.units) (de_cb (okc_repr hgd hr.u200) F.b_repr boot_repr (da_cons (de_m0 h_Store_log (hr.mono (by decide)) (de_var 2)) da_nil)) (de_cb (okc_repr hgd hr.u200) F.b_repr boot_repr (da_cons (de_ct okc_tuple F.b_tuple boot_tuple (da_cons (de_dget hr.units1 (de_var 3) de_str) da_nil)) da_nil))) (db_one (ds_ret de_bl)) db_nil)))))
  (db_one (ds_ret de_bl)))
--@ _law_claims
abbrev s_l_claims : Stmt := topS 60
abbrev N_l_claims : List Str := ["_law_pool_here", "_law_tongue_here", "_law_standing", "_law_many", "_law_found", "_law_turn_here", "_law_claim", "_law_together"]
theorem sc_l_claims : FnScope N_l_claims ["_law_pool_here", "_law_tongue_here", "_law_standing", "_law_many"] (defScope s_l_claims) := ⟨rfl, rfl, rfl, by decide +kernel, rfl, by decide +kernel, by decide +kernel⟩
def t_l_claims (a : Ad) : AS :=
  (aSeq (aAsg (aLstM aNil) (gNameA 4))
  (aSeq (aFor (iRngA1 (aCons (aVar 3) aNil)) (gNameA 5)
  (aSeq (aAsg (aCall (sp_l_saying 4 a) (fun ds _ => ds) 5 (aCons (aVar 0) (aCons (aVar 1) (aCons (aBin AddA (aC (.int 1)) (aCall (sp_l_take a) (fun ds _ => ds) 2 (aCons (aVar 0) (aCons (aC (.int 4)) aNil)))) (aCons (aC (.int 2)) (aCons (aC (.int 9)) aNil)))))) (gNameA 6))
  (aSeq (aAsg (aBin AddA (aBin AddA (aVar 2) (aVar 4)) (aLst (aCons (aVar 6) aNil))) (gNameA 7))
  (aIfS (aAnd (aB (aBin LeA (aCB LenA (aCons (aVar 7) aNil)) (aC (.int 12)))) (aB (aBin LeA (aCall (sp_l_cases_all a) (fun ds _ => ds) 1 (aCons (aVar 7) aNil)) (aC (.int 32)))))
  (aDrop (aBM "list" AppA (aVar 4) (aCons (aVar 6) aNil)))
  aNext))))
  (aRet (aFrz (aVar 4)))))
theorem den_l_claims (F : Fx P w K mg a) 
    (h_l_take : Fn1 P w K mg base "_law_take" 1 [] 2 0 (fun ds _ => ds) (sp_l_take a))
    (h_l_saying : Fn1 P w K mg base "_law_saying" 10 [] 5 0 (fun ds _ => ds) (sp_l_saying 4 a))
    (h_l_cases_all : Fn1 P w K mg base "_law_cases_all" 7 [] 1 0 (fun ds _ => ds) (sp_l_cases_all a))
    {f : Addr} {cdv : Value} {A : Around} {outer : List Env} {s : Shared} {H : Hp} {E : XK} (hr : Room 10 (A.deeper (envOfC "_law_claims" (defScope s_l_claims) s.heap.objs.size f cdv))) :
    DenB (cxOf (L2.CX P w) P w K mg base N_l_claims "_law_claims" (defScope s_l_claims) f cdv A outer s H E) (defBody s_l_claims) (t_l_claims a) :=
  (db_cons (ds_set 4 sc_l_claims.nd (de_lstM da_nil))
  (db_cons (ds_for (passes_of rfl) rfl (di_range1 F.b_range (da_cons (de_var 3) da_nil)) (dg_name 5 sc_l_claims.nd) (db_cons (ds_set 6 sc_l_claims.nd (de_f h_l_saying (hr.mono (by decide)) (da_cons (de_var 0) (da_cons (de_var 1) (da_cons (de_bin ok_add de_int (de_f h_l_take (hr.mono (by decide)) (da_cons (de_var 0) (da_cons de_int da_nil)))) (da_cons de_int (da_cons de_int da_nil)))))))
  (db_cons (ds_set 7 sc_l_claims.nd (de_bin ok_add (de_bin ok_add (de_var 2) (de_var 4)) (de_lst (da_cons (de_var 6) da_nil))))
  (db_one (ds_if (DenW.t (dw_and (dt_cmp ok_le (de_cb okc_len F.b_len boot_len (da_cons (de_var 7) da_nil)) de_int) (dw_and1 (dt_cmp ok_le (de_f h_l_cases_all (hr.mono (by decide)) (da_cons (de_var 7) da_nil)) de_int)))) (db_one (ds_expr (de_bm PySem.F.plainAttrs_list PySem.F.slot_list_append PySem.F.type_list_append okm_append (de_var 4) (da_cons (de_var 6) da_nil)))) db_nil)))))
  (db_one (ds_ret (de_frz (de_var 4))))))
--@ _law_step
abbrev s_l_step : Stmt := topS 61
abbrev N_l_step : List Str := ["_law_pool_here", "_law_tongue_here", "_law_store", "_law_model_here", "_law_way", "_law_here", "_law_claims_here", "_law_claim", "_law_handed", "_law_told", "_law_numbers", "_law_free", "_law_number"]
theorem sc_l_step : FnScope N_l_step ["_law_pool_here", "_law_tongue_here", "_law_store", "_law_model_here"] (defScope s_l_step) := ⟨rfl, rfl, rfl, by decide +kernel, rfl, by decide +kernel, by decide +kernel⟩
def t_l_step (a : Ad) : AS :=
  (aSeq (aAsg (aCall (sp_l_take a) (fun ds _ => ds) 2 (aCons (aVar 0) (aCons (aC (.int 10)) aNil))) (gNameA 4))
  (aSeq (aAsg (aDGet (aVar 3) (aC (.str "said"))) (gNameA 5))
  (aSeq (aPar 10 11 (aCons (aCB ListKA (aCons (aVar 5) aNil)) (aCons (aDGet (aVar 3) (aC (.str "next"))) aNil)))
  (aSeq (aAsg (aCall (sp_l_claims a) (fun ds _ => ds) 4 (aCons (aVar 0) (aCons (aVar 1) (aCons (aListV (aVar 5)) (aCons (aBin IxA (aLst (aCons (aC (.int 1)) (aCons (aCall (sp_l_take a) (fun ds _ => ds) 2 (aCons (aVar 0) (aCons (aC (.int 5)) aNil))) aNil))) (aCB IntA (aCons (aChain LtA LtA (aC (.int 3)) (aVar 4) (aC (.int 6))) aNil))) aNil))))) (gNameA 6))
  (aSeq (aIfS (aAnd (aB (aBin EqA (aVar 4) (aC (.int 9)))) (aB (aBin NeNilA (aDGet (aVar 3) (aC (.str "marks"))) (aLst aNil))))
  (aSeq (aDrop (aBM "list" ExtA (aDGet (aVar 3) (aC (.str "log"))) (aCons (aLst (aCons (aTup (aCons (aC (.str "in")) (aCons (aC (.str "back")) aNil))) (aCons (aTup (aCons (aC (.str "out")) (aCons (aC (.str "back")) aNil))) aNil))) aNil)))
  (aSeq (aDPut (aVar 3) (aC (.str "said")) (aBM "list" PopA (aDGet (aVar 3) (aC (.str "marks"))) aNil))
  (aRet (aBin IsA (aMeth a.Store "back" (sp_Store_back a) (fun ds _ => ds) 1 0 (aVar 2) aNil aNil) (aC .non)))))
  aNext)
  (aSeq (aIfS (aB (aBin EqA (aVar 4) (aC (.int 8))))
  (aSeq (aDrop (aBM "list" ExtA (aDGet (aVar 3) (aC (.str "log"))) (aCons (aLst (aCons (aTup (aCons (aC (.str "in")) (aCons (aC (.str "mark")) aNil))) (aCons (aTup (aCons (aC (.str "out")) (aCons (aC (.str "mark")) aNil))) aNil))) aNil)))
  (aSeq (aDrop (aBM "list" AppA (aDGet (aVar 3) (aC (.str "marks"))) (aCons (aCB DictMA (aCons (aVar 5) aNil)) aNil)))
  (aRet (aBin EqA (aCB ReprIA (aCons (aMeth a.Store "mark" (sp_Store_mark a) (fun ds _ => ds) 1 0 (aVar 2) aNil aNil) aNil)) (aCB ReprIA (aCons (aCB LenA (aCons (aDGet (aVar 3) (aC (.str "marks"))) aNil)) aNil))))))
  aNext)
  (aSeq (aIfS (aAnd (aB (aBin NeA (aVar 10) (aLst aNil))) (aOr (aB (aBin GtA (aVar 4) (aC (.int 5)))) (aAnd (aB (aBin LtA (aVar 4) (aC (.int 4)))) (aB (aBin EqA (aVar 6) (aLst aNil))))))
  (aSeq (aDrop (aBM "list" ExtA (aDGet (aVar 3) (aC (.str "log"))) (aCons (aLst (aCons (aTup (aCons (aC (.str "in")) (aCons (aC (.str "drop")) aNil))) (aCons (aTup (aCons (aC (.str "out")) (aCons (aC (.str "drop")) aNil))) aNil))) aNil)))
  (aSeq (aAsg (aBin IxA (aVar 10) (aCall (sp_l_take a) (fun ds _ => ds) 2 (aCons (aVar 0) (aCons (aCB LenA (aCons (aVar 10) aNil)) aNil)))) (gNameA 12))
  (aSeq (aDrop (aDPop (aVar 5) (aVar 12)))
  (aRet (aBin IsA (aMeth a.Store "drop" (sp_Store_drop a) (fun ds _ => ds) 2 0 (aVar 2) (aCons (aVar 12) aNil) aNil) (aC .non))))))
  aNext)
  (aSeq (aFor (iLstA (aVar 6)) (gNameA 7)
  (aSeq (aDPut (aVar 5) (aDGet (aVar 3) (aC (.str "next"))) (aVar 7))
  (aDPut (aVar 3) (aC (.str "next")) (aBin AddA (aDGet (aVar 3) (aC (.str "next"))) (aC (.int 1))))))
  (aSeq (aIfS (aAnd (aB (aBin EqA (aCB LenA (aCons (aVar 6) aNil)) (aC (.int 1)))) (aB (aBin LtA (aVar 4) (aC (.int 4)))))
  (aSeq (aDrop (aBM "list" ExtA (aDGet (aVar 3) (aC (.str "log"))) (aCons (aLst (aCons (aTup (aCons (aC (.str "in")) (aCons (aC (.str "say")) aNil))) (aCons (aTup (aCons (aC (.str "out")) (aCons (aC (.str "say")) aNil))) aNil))) aNil)))
  (aRet (aBin EqA (aCB ReprIA (aCons (aMeth a.Store "say" (sp_Store_say a) (fun ds _ => ds) 2 0 (aVar 2) (aCons (aBin IxA (aVar 6) (aC (.int 0))) aNil) aNil) aNil)) (aCB ReprIA (aCons (aVar 11) aNil)))))
  aNext)
  (aSeq (aDrop (aBM "list" ExtA (aDGet (aVar 3) (aC (.str "log"))) (aCons (aLst (aCons (aTup (aCons (aC (.str "in")) (aCons (aC (.str "say_all")) aNil))) (aCons (aTup (aCons (aC (.str "out")) (aCons (aC (.str "say_all")) aNil))) aNil))) aNil)))
  (aSeq (aAsg (aBin IxA (aLst (aCons (aCB TupleA (aCons (aVar 6) aNil)) (aCons (aCB ListMA (aCons (aVar 6) aNil)) aNil))) (aCall (sp_l_take a) (fun ds _ => ds) 2 (aCons (aVar 0) (aCons (aC (.int 2)) aNil)))) (gNameA 8))
  (aSeq (aAsg (aMeth a.Store "say_all" (sp_Store_say_all a) (fun ds _ => ds) 2 0 (aVar 2) (aCons (aVar 8) aNil) aNil) (gNameA 9))
  (aSeq (aIfS (aB (aBin NeA (aCB ListA (aCons (aVar 8) aNil)) (aVar 6)))
  (aRet (aC (.bl false)))
  aNext)
  (aSeq (aIfS (aTru (aCB IsiA (aCons (aVar 8) (aCons (aC (.ty "list")) aNil))))
  (aDrop (aBM "list" AppA (aVar 8) (aCons (aTup (aCons (aC (.str "within")) (aCons (aTup (aCons (aC (.str "none")) aNil)) (aCons (aTup (aCons (aC (.str "all")) aNil)) aNil)))) aNil)))
  aNext)
  (aRet (aBin EqA (aCB ReprA (aCons (aVar 9) aNil)) (aCB ReprA (aCons (aTupRg (aCons (aVar 11) (aCons (aDGet (aVar 3) (aC (.str "next"))) aNil))) aNil))))))))))))))))))
theorem den_l_step (F : Fx P w K mg a) 
    (h_l_take : Fn1 P w K mg base "_law_take" 1 [] 2 0 (fun ds _ => ds) (sp_l_take a))
    (h_l_claims : Fn1 P w K mg base "_law_claims" 11 [] 4 0 (fun ds _ => ds) (sp_l_claims a))
    (h_Store_back : Mt1 P w K mg base a.Store "back" 1 [] 1 0 (fun ds _ => ds) (sp_Store_back a))
    (h_Store_mark : Mt1 P w K mg base a.Store "mark" 1 [] 1 0 (fun ds _ => ds) (sp_Store_mark a))
    (h_Store_drop : Mt1 P w K mg base a.Store "drop" 2 [] 2 0 (fun ds _ => ds) (sp_Store_drop a))
    (h_Store_say : Mt1 P w K mg base a.Store "say" 28 [] 2 0 (fun ds _ => ds) (sp_Store_say a))
    (h_Store_say_all : Mt1 P w K mg base a.Store "say_all" 28 [] 2 0 (fun ds _ => ds) (sp_Store_say_all a))
    {f : Addr} {cdv : Value} {A : Around} {outer : List Env} {s : Shared} {H : Hp} {E : XK} (hr : Room 28 (A.deeper (envOfC "_law_step" (defScope s_l_step) s.heap.objs.size f cdv))) (hgd : A.guards = some []) :
    DenB (cxOf (L2.CX P w) P w K mg base N_l_step "_law_step" (defScope s_l_step) f cdv A outer s H E) (defBody s_l_step) (t_l_step a) :=
  (db_cons (ds_set 4 sc_l_step.nd (de_f h_l_take (hr.mono (by decide)) (da_cons (de_var 0) (da_cons de_int da_nil))))
  (db_cons (ds_set 5 sc_l_step.nd (de_dget hr.units1 (de_var 3) de_str))
  (db_cons (ds_par (i := 10) (j := 11) rfl sc_l_step.nd (da_cons (de_ct (okc_listK rfl) F.b_list boot_list (da_cons (de_var 5) da_nil)) (da_cons (de_dget hr.units1 (de_var 3) de_str) da_nil)))
  (db_cons (ds_set 6 sc_l_step.nd (de_f h_l_claims (hr.mono (by decide)) (da_cons (de_var 0) (da_cons (de_var 1) (da_cons (de_listV rfl (de_var 5) F.b_list boot_list) (da_cons (de_ix (de_lst (da_cons de_int (da_cons (de_f h_l_take (hr.mono (by decide)) (da_cons (de_var 0) (da_cons de_int da_nil))) da_nil))) (de_ct okc_int F.b_int boot_int (da_cons (de_chain ok_lt ok_lt de_int (de_var 4) de_int) da_nil))) da_nil))))))
  (db_cons (ds_if (DenW.t (dw_and (dt_cmp (ok_eq hr.units) (de_var 4) de_int) (dw_and1 (dt_cmp (ok_neNil hr.units0) (de_dget hr.units1 (de_var 3) de_str) (de_lst da_nil))))) (db_cons (ds_expr (de_bm PySem.F.plainAttrs_list PySem.F.slot_list_extend PySem.F.type_list_extend okm_extend (de_dget hr.units1 (de_var 3) de_str) (da_cons (de_lst (da_cons (de_tup (da_cons de_str (da_cons de_str da_nil))) (da_cons (de_tup (da_cons de_str (da_cons de_str da_nil))) da_nil))) da_nil)))
  (db_cons (ds_dput hr.units1 (de_var 3) de_str (de_bm0 PySem.F.plainAttrs_list PySem.F.slot_list_pop PySem.F.type_list_pop okm_pop (de_dget hr.units1 (de_var 3) de_str)))
  (db_one (ds_ret (de_cmp ok_is (de_m0 h_Store_back (hr.mono (by decide)) (de_var 2)) de_non))))) db_nil)
  (db_cons (ds_if (dt_cmp (ok_eq hr.units) (de_var 4) de_int) (db_cons (ds_expr (de_bm PySem.F.plainAttrs_list PySem.F.slot_list_extend PySem.F.type_list_extend okm_extend (de_dget hr.units1 (de_var 3) de_str) (da_cons (de_lst (da_cons (de_tup (da_cons de_str (da_cons de_str da_nil))) (da_cons (de_tup (da_cons de_str (da_cons de_str da_nil))) da_nil))) da_nil)))
  (db_cons (ds_expr (de_bm PySem.F.plainAttrs_list PySem.F.slot_list_append PySem.F.type_list_append okm_append (de_dget hr.units1 (de_var 3) de_str) (da_cons (de_ct okc_dictM F.b_dict boot_dict (da_cons (de_var 5) da_nil)) da_nil)))
  (db_one (ds_ret (de_cmp (ok_eq hr.units) (de_cb okc_reprI F.b_repr boot_repr (da_cons (de_m0 h_Store_mark (hr.mono (by decide)) (de_var 2)) da_nil)) (de_cb okc_reprI F.b_repr boot_repr (da_cons (de_cb okc_len F.b_len boot_len (da_cons (de_dget hr.units1 (de_var 3) de_str) da_nil)) da_nil))))))) db_nil)
  (db_cons (ds_if (DenW.t (dw_and (dt_cmp (ok_ne hr.units) (de_var 10) (de_lst da_nil)) (dw_and1 (DenW.t (dw_or (dt_cmp ok_gt (de_var 4) de_int) (dw_or1 (DenW.t (dw_and (dt_cmp ok_lt (de_var 4) de_int) (dw_and1 (dt_cmp (ok_eq hr.units) (de_var 6) (de_lst da_nil))))))))))) (db_cons (ds_expr (de_bm PySem.F.plainAttrs_list PySem.F.slot_list_extend PySem.F.type_list_extend okm_extend (de_dget hr.units1 (de_var 3) de_str) (da_cons (de_lst (da_cons (de_tup (da_cons de_str (da_cons de_str da_nil))) (da_cons (de_tup (da_cons de_str (da_cons de_str da_nil))) da_nil))) da_nil)))
  (db_cons (ds_set 12 sc_l_step.nd (de_ix (de_var 10) (de_f h_l_take (hr.mono (by decide)) (da_cons (de_var 0) (da_cons (de_cb okc_len F.b_len boot_len (da_cons (de_var 10) da_nil)) da_nil)))))
  (db_cons (ds_expr (de_dpop (de_var 5) (de_var 12)))
  (db_one (ds_ret (de_cmp ok_is (de_m h_Store_drop (hr.mono (by decide)) (de_var 2) (da_cons (de_var 12) da_nil)) de_non)))))) db_nil)
  (db_cons (ds_for (passes_of rfl) rfl (di_list (de_var 6)) (dg_name 7 sc_l_step.nd) (db_cons (ds_dput hr.units1 (de_var 5) (de_dget hr.units1 (de_var 3) de_str) (de_var 7))
  (db_one (ds_dput hr.units1 (de_var 3) de_str (de_bin ok_add (de_dget hr.units1 (de_var 3) de_str) de_int)))))
  (db_cons (ds_if (DenW.t (dw_and (dt_cmp (ok_eq hr.units) (de_cb okc_len F.b_len boot_len (da_cons (de_var 6) da_nil)) de_int) (dw_and1 (dt_cmp ok_lt (de_var 4) de_int)))) (db_cons (ds_expr (de_bm PySem.F.plainAttrs_list PySem.F.slot_list_extend PySem.F.type_list_extend okm_extend (de_dget hr.units1 (de_var 3) de_str) (da_cons (de_lst (da_cons (de_tup (da_cons de_str (da_cons de_str da_nil))) (da_cons (de_tup (da_cons de_str (da_cons de_str da_nil))) da_nil))) da_nil)))
  (db_one (ds_ret (de_cmp (ok_eq hr.units) (de_cb okc_reprI F.b_repr boot_repr (da_cons (de_m h_Store_say (hr.mono (by decide)) (de_var 2) (da_cons (de_ix (de_var 6) de_int) da_nil)) da_nil)) (de_cb okc_reprI F.b_repr boot_repr (da_cons (de_var 11) da_nil)))))) db_nil)
  (db_cons (ds_expr (de_bm PySem.F.plainAttrs_list PySem.F.slot_list_extend PySem.F.type_list_extend okm_extend (de_dget hr.units1 (de_var 3) de_str) (da_cons (de_lst (da_cons (de_tup (da_cons de_str (da_cons de_str da_nil))) (da_cons (de_tup (da_cons de_str (da_cons de_str da_nil))) da_nil))) da_nil)))
  (db_cons (ds_set 8 sc_l_step.nd (de_ix (de_lst (da_cons (de_ct okc_tuple F.b_tuple boot_tuple (da_cons (de_var 6) da_nil)) (da_cons (de_ct okc_listM F.b_list boot_list (da_cons (de_var 6) da_nil)) da_nil))) (de_f h_l_take (hr.mono (by decide)) (da_cons (de_var 0) (da_cons de_int da_nil)))))
  (db_cons (ds_set 9 sc_l_step.nd (de_m h_Store_say_all (hr.mono (by decide)) (de_var 2) (da_cons (de_var 8) da_nil)))
  (db_cons (ds_if (dt_cmp (ok_ne hr.units) (de_ct okc_list F.b_list boot_list (da_cons (de_var 8) da_nil)) (de_var 6)) (db_one (ds_ret de_bl)) db_nil)
  (db_cons (ds_if (dt_tru (de_cb okc_isi F.b_isinstance boot_isinstance (da_cons (de_var 8) (da_cons (de_bltn (d := .ty "list") (v := .ty "list") F.b_list boot_list rfl) da_nil)))) (db_one (ds_expr (de_bm PySem.F.plainAttrs_list PySem.F.slot_list_append PySem.F.type_list_append okm_append (de_var 8) (da_cons (de_tup (da_cons de_str (da_cons (de_tup (da_cons de_str da_nil)) (da_cons (de_tup (da_cons de_str da_nil)) da_nil)))) da_nil)))) db_nil)
  (db_one (ds_ret (de_cmp (ok_eq hr.units) (de_cb (okc_repr hgd hr.u200) F.b_repr boot_repr (da_cons (de_var 9) da_nil)) (de_cb (okc_repr hgd hr.u200) F.b_repr boot_repr (da_cons (de_tupRg rfl F.b_tuple F.b_range (de_var 11) (de_dget hr.units1 (de_var 3) de_str)) da_nil)))))))))))))))))))
--@ _law_turn
abbrev s_l_turn : Stmt := topS 62
abbrev N_l_turn : List Str := ["_law_pool_here", "_law_tongue_here", "_law_stores", "_law_models", "_law_at", "_law_standing"]
theorem sc_l_turn : FnScope N_l_turn ["_law_pool_here", "_law_tongue_here", "_law_stores", "_law_models"] (defScope s_l_turn) := ⟨rfl, rfl, rfl, by decide +kernel, rfl, by decide +kernel, by decide +kernel⟩
def t_l_turn (a : Ad) : AS :=
  (aSeq (aAsg (aCall (sp_l_take a) (fun ds _ => ds) 2 (aCons (aVar 0) (aCons (aCB LenA (aCons (aVar 2) aNil)) aNil))) (gNameA 4))
  (aSeq (aIfS (aAnd (aB (aBin EqA (aCall (sp_l_take a) (fun ds _ => ds) 2 (aCons (aVar 0) (aCons (aC (.int 6)) aNil))) (aC (.int 0)))) (aB (aBin LtA (aCB LenA (aCons (aVar 2) aNil)) (aC (.int 3)))))
  (aSeq (aDrop (aBM "list" AppA (aVar 2) (aCons (aMeth a.Store "twin" (sp_Store_twin a) (fun ds _ => ds) 1 0 (aBin IxA (aVar 2) (aVar 4)) aNil aNil) aNil)))
  (aDrop (aBM "list" AppA (aVar 3) (aCons (aCall (sp_l_copy a) (fun ds _ => ds) 1 (aCons (aBin IxA (aVar 3) (aVar 4)) aNil)) aNil))))
  aNext)
  (aSeq (aAsg (aMeth a.Store "standing" (sp_Store_standing a) (fun ds _ => ds) 1 0 (aBin IxA (aVar 2) (aVar 4)) aNil aNil) (gNameA 5))
  (aSeq (aDPut (aVar 5) (aCall (sp_l_take a) (fun ds _ => ds) 2 (aCons (aVar 0) (aCons (aC (.int 14)) aNil))) (aTup (aCons (aC (.str "within")) (aCons (aTup (aCons (aC (.str "all")) aNil)) (aCons (aTup (aCons (aC (.str "none")) aNil)) aNil)))))
  (aRet (aAndV (aCall (sp_l_step a) (fun ds _ => ds) 4 (aCons (aVar 0) (aCons (aVar 1) (aCons (aBin IxA (aVar 2) (aVar 4)) (aCons (aBin IxA (aVar 3) (aVar 4)) aNil))))) (aCall (sp_l_alike a) (fun ds _ => ds) 2 (aCons (aVar 2) (aCons (aVar 3) aNil)))))))))
theorem den_l_turn (F : Fx P w K mg a) 
    (h_l_take : Fn1 P w K mg base "_law_take" 1 [] 2 0 (fun ds _ => ds) (sp_l_take a))
    (h_Store_twin : Mt1 P w K mg base a.Store "twin" 3 [] 1 0 (fun ds _ => ds) (sp_Store_twin a))
    (h_l_copy : Fn1 P w K mg base "_law_copy" 1 [] 1 0 (fun ds _ => ds) (sp_l_copy a))
    (h_Store_standing : Mt1 P w K mg base a.Store "standing" 1 [] 1 0 (fun ds _ => ds) (sp_Store_standing a))
    (h_l_step : Fn1G P w K mg base "_law_step" 29 [] 4 0 (fun ds _ => ds) (sp_l_step a))
    (h_l_alike : Fn1G P w K mg base "_law_alike" 5 [] 2 0 (fun ds _ => ds) (sp_l_alike a))
    {f : Addr} {cdv : Value} {A : Around} {outer : List Env} {s : Shared} {H : Hp} {E : XK} (hr : Room 29 (A.deeper (envOfC "_law_turn" (defScope s_l_turn) s.heap.objs.size f cdv))) (hgd : A.guards = some []) :
    DenB (cxOf (L2.CX P w) P w K mg base N_l_turn "_law_turn" (defScope s_l_turn) f cdv A outer s H E) (defBody s_l_turn) (t_l_turn a) :=
  (db_cons (ds_set 4 sc_l_turn.nd (de_f h_l_take (hr.mono (by decide)) (da_cons (de_var 0) (da_cons (de_cb okc_len F.b_len boot_len (da_cons (de_var 2) da_nil)) da_nil))))
  (db_cons (ds_if (DenW.t (dw_and (dt_cmp (ok_eq hr.units) (de_f h_l_take (hr.mono (by decide)) (da_cons (de_var 0) (da_cons de_int da_nil))) de_int) (dw_and1 (dt_cmp ok_lt (de_cb okc_len F.b_len boot_len (da_cons (de_var 2) da_nil)) de_int)))) (db_cons (ds_expr (de_bm PySem.F.plainAttrs_list PySem.F.slot_list_append PySem.F.type_list_append okm_append (de_var 2) (da_cons (de_m0 h_Store_twin (hr.mono (by decide)) (de_ix (de_var 2) (de_var 4))) da_nil)))
  (db_one (ds_expr (de_bm PySem.F.plainAttrs_list PySem.F.slot_list_append PySem.F.type_list_append okm_append (de_var 3) (da_cons (de_f h_l_copy (hr.mono (by decide)) (da_cons (de_ix (de_var 3) (de_var 4)) da_nil)) da_nil))))) db_nil)
  (db_cons (ds_set 5 sc_l_turn.nd (de_m0 h_Store_standing (hr.mono (by decide)) (de_ix (de_var 2) (de_var 4))))
  (db_cons (ds_dput hr.units1 (de_var 5) (de_f h_l_take (hr.mono (by decide)) (da_cons (de_var 0) (da_cons de_int da_nil))) (de_tup (da_cons de_str (da_cons (de_tup (da_cons de_str da_nil)) (da_cons (de_tup (da_cons de_str da_nil)) da_nil)))))
  (db_one (ds_ret (de_and (de_fG h_l_step hgd (hr.mono (by decide)) (da_cons (de_var 0) (da_cons (de_var 1) (da_cons (de_ix (de_var 2) (de_var 4)) (da_cons (de_ix (de_var 3) (de_var 4)) da_nil))))) (de_one (de_fG h_l_alike hgd (hr.mono (by decide)) (da_cons (de_var 2) (da_cons (de_var 3) da_nil)))))))))))
--@ law
abbrev s_law : Stmt := topS 63
abbrev N_law : List Str := ["_law_script", "_law_pool_here", "_law_tongue_here", "_law_top", "_law_turn_here", "_law_k", "_law_stores", "_law_models", "_law_alike_here", "_law_apart"]
theorem sc_law : FnScope N_law ["_law_script"] (defScope s_law) := ⟨rfl, rfl, rfl, by decide +kernel, rfl, by decide +kernel, by decide +kernel⟩
def t_law (a : Ad) : AS :=
  (aSeq (aAsg (aCall (sp_l_pool a) (fun ds _ => ds) 2 (aCons (aVar 0) (aCons (aC (.int 0)) aNil))) (gNameA 1))
  (aSeq (aAsg (aCall (sp_l_tongue a) (fun ds _ => ds) 3 (aCons (aVar 1) (aCons (aC (.int 3)) (aCons (aC (.int 2)) aNil)))) (gNameA 2))
  (aSeq (aAsg (aBin AddA (aC (.int 1)) (aCall (sp_l_take a) (fun ds _ => ds) 2 (aCons (aVar 1) (aCons (aC (.int 20)) aNil)))) (gNameA 3))
  (aSeq (aPar 6 7 (aCons (aLstM (aCons (aMk true a.Store (sp_Store_init a) (fun ds es => ds ++ es) 1 0 (aCons (aMk false a.Talk (sp_Talk_init a) (fun ds es => ds ++ es) 2 1 (aCons (aWk (aBin IxA (aVar 2) (aC (.int 0)))) (aCons (aWk (aBin IxA (aVar 2) (aC (.int 1)))) aNil)) (aCons (aVar 3) aNil)) aNil) aNil) aNil)) (aCons (aLstM (aCons (aCall (sp_l_model a) (fun ds _ => ds) 0 aNil) aNil)) aNil)))
  (aSeq (aFor (iRngA1 (aCons (aBin AddA (aC (.int 6)) (aCall (sp_l_take a) (fun ds _ => ds) 2 (aCons (aVar 1) (aCons (aC (.int 10)) aNil)))) aNil)) (gNameA 4)
  (aIfS (aNot (aTru (aCall (sp_l_turn a) (fun ds _ => ds) 4 (aCons (aVar 1) (aCons (aVar 2) (aCons (aVar 6) (aCons (aVar 7) aNil)))))))
  (aRet (aC (.bl false)))
  aNext))
  (aSeq (aFor (iRngA2 (aCons (aC (.int 1)) (aCons (aCB MinA (aCons (aC (.int 63)) (aCons (aCB LenA (aCons (aVar 0) aNil)) aNil))) aNil))) (gNameA 5)
  (aSeq (aAsg (aCall (sp_l_pool a) (fun ds _ => ds) 2 (aCons (aVar 0) (aCons (aVar 5) aNil))) (gNameA 1))
  (aFor (iRngA1 (aCons (aBin AddA (aC (.int 1)) (aCall (sp_l_take a) (fun ds _ => ds) 2 (aCons (aVar 1) (aCons (aC (.int 2)) aNil)))) aNil)) (gNameA 4)
  (aIfS (aNot (aTru (aCall (sp_l_turn a) (fun ds _ => ds) 4 (aCons (aVar 1) (aCons (aVar 2) (aCons (aVar 6) (aCons (aVar 7) aNil)))))))
  (aRet (aC (.bl false)))
  aNext))))
  (aSeq (aPar 8 9 (aCons (aMk true a.Store (sp_Store_init a) (fun ds es => ds ++ es) 1 0 (aCons (aMk false a.Talk (sp_Talk_init a) (fun ds es => ds ++ es) 2 1 (aCons (aWk (aBin IxA (aVar 2) (aC (.int 0)))) (aCons (aWk (aBin IxA (aVar 2) (aC (.int 1)))) aNil)) (aCons (aVar 3) aNil)) aNil) aNil) (aCons (aMk true a.Store (sp_Store_init a) (fun ds es => ds ++ es) 1 0 (aCons (aMk false a.Talk (sp_Talk_init a) (fun ds es => ds ++ es) 2 1 (aCons (aWk (aBin IxA (aVar 2) (aC (.int 0)))) (aCons (aWk (aBin IxA (aVar 2) (aC (.int 1)))) aNil)) (aCons (aBin AddA (aVar 3) (aC (.int 1))) aNil)) aNil) aNil) aNil)))
  (aSeq (aDrop (aMeth a.Store "say_all" (sp_Store_say_all a) (fun ds _ => ds) 2 0 (aVar 8) (aCons (aListV (aDGet (aBin IxA (aVar 7) (aC (.int 0))) (aC (.str "said")))) aNil) aNil))
  (aSeq (aDrop (aMeth a.Store "say_all" (sp_Store_say_all a) (fun ds _ => ds) 2 0 (aVar 9) (aCons (aListV (aDGet (aBin IxA (aVar 7) (aC (.int 0))) (aC (.str "said")))) aNil) aNil))
  (aRet (aAndV (aBin (EqOwnA a.Store (sp_Store_eq a)) (aVar 8) (aBin IxA (aVar 6) (aC (.int 0)))) (aAndV (aNotV (aBin (EqOwnA a.Store (sp_Store_eq a)) (aVar 9) (aBin IxA (aVar 6) (aC (.int 0))))) (aBin (EqOwnA a.Talk (sp_Talk_eq a)) (aMeth a.Store "talk" (sp_Store_talk a) (fun ds _ => ds) 1 0 (aBin IxA (aVar 6) (aUn NegA (aC (.int 1)))) aNil aNil) (aMeth a.Store "talk" (sp_Store_talk a) (fun ds _ => ds) 1 0 (aVar 8) aNil aNil))))))))))))))
theorem den_law (F : Fx P w K mg a) 
    (h_l_pool : Fn1 P w K mg base "_law_pool" 1 [] 2 0 (fun ds _ => ds) (sp_l_pool a))
    (h_l_tongue : Fn1 P w K mg base "_law_tongue" 3 [] 3 0 (fun ds _ => ds) (sp_l_tongue a))
    (h_l_take : Fn1 P w K mg base "_law_take" 1 [] 2 0 (fun ds _ => ds) (sp_l_take a))
    (h_Talk_m : Mk1 P w K mg base "Talk" a.Talk 3 ["most"] 2 1 (fun ds es => ds ++ es) (sp_Talk_init a))
    (h_Store : Mk1 P w K mg base "Store" a.Store 1 [] 1 0 (fun ds es => ds ++ es) (sp_Store_init a))
    (h_l_model : Fn1 P w K mg base "_law_model" 1 [] 0 0 (fun ds _ => ds) (sp_l_model a))
    (h_l_turn : Fn1G P w K mg base "_law_turn" 30 [] 4 0 (fun ds _ => ds) (sp_l_turn a))
    (h_Store_say_all : Mt1 P w K mg base a.Store "say_all" 28 [] 2 0 (fun ds _ => ds) (sp_Store_say_all a))
    (ho_Store_eq : Own1 P w K mg base a.Store "__eq__" 3 2 (sp_Store_eq a))
    (ho_Talk_eq : Own1 P w K mg base a.Talk "__eq__" 1 2 (sp_Talk_eq a))
    (h_Store_talk : Mt1 P w K mg base a.Store "talk" 1 [] 1 0 (fun ds _ => ds) (sp_Store_talk a))
    
    {f : Addr} {cdv : Value} {A : Around} {outer : List Env} {s : Shared} {H : Hp} {E : XK} (hr : Room 30 (A.deeper (envOfC "law" (defScope s_law) s.heap.objs.size f cdv))) (hgd : A.guards = some []) :
    DenB (cxOf (L2.CX P w) P w K mg base N_law "law" (defScope s_law) f cdv A outer s H E) (defBody s_law) (t_law a) :=
  (db_cons (ds_set 1 sc_law.nd (de_f h_l_pool (hr.mono (by decide)) (da_cons (de_var 0) (da_cons de_int da_nil))))
  (db_cons (ds_set 2 sc_law.nd (de_f h_l_tongue (hr.mono (by decide)) (da_cons (de_var 1) (da_cons de_int (da_cons de_int da_nil)))))
  (db_cons (ds_set 3 sc_law.nd (de_bin ok_add de_int (de_f h_l_take (hr.mono (by decide)) (da_cons (de_var 1) (da_cons de_int da_nil)))))
  (db_cons (ds_par (i := 6) (j := 7) rfl sc_law.nd (da_cons (de_lstM (da_cons (de_k true h_Store (hr.mono (by decide)) (da_cons (de_k false h_Talk_m (hr.mono (by decide)) (da_cons (de_wk (de_ix (de_var 2) de_int)) (da_cons (de_wk (de_ix (de_var 2) de_int)) da_nil)) (dk_cons (de_var 3) dk_nil)) da_nil) dk_nil) da_nil)) (da_cons (de_lstM (da_cons (de_f0 h_l_model (hr.mono (by decide))) da_nil)) da_nil)))
  (db_cons (ds_for (passes_of rfl) rfl (di_range1 F.b_range (da_cons (de_bin ok_add de_int (de_f h_l_take (hr.mono (by decide)) (da_cons (de_var 1) (da_cons de_int da_nil)))) da_nil)) (dg_name 4 sc_law.nd) (db_one (ds_if (dt_not (dt_tru (de_fG h_l_turn hgd (hr.mono (by decide)) (da_cons (de_var 1) (da_cons (de_var 2) (da_cons (de_var 6) (da_cons (de_var 7) da_nil))))))) (db_one (ds_ret de_bl)) db_nil)))
  (db_cons (ds_for (passes_of rfl) rfl (di_range2 F.b_range (da_cons de_int (da_cons (de_cb (okc_min rfl) F.b_min boot_min (da_cons de_int (da_cons (de_cb okc_len F.b_len boot_len (da_cons (de_var 0) da_nil)) da_nil))) da_nil))) (dg_name 5 sc_law.nd) (db_cons (ds_set 1 sc_law.nd (de_f h_l_pool (hr.mono (by decide)) (da_cons (de_var 0) (da_cons (de_var 5) da_nil))))
  (db_one (ds_for (passes_of rfl) rfl (di_range1 F.b_range (da_cons (de_bin ok_add de_int (de_f h_l_take (hr.mono (by decide)) (da_cons (de_var 1) (da_cons de_int da_nil)))) da_nil)) (dg_name 4 sc_law.nd) (db_one (ds_if (dt_not (dt_tru (de_fG h_l_turn hgd (hr.mono (by decide)) (da_cons (de_var 1) (da_cons (de_var 2) (da_cons (de_var 6) (da_cons (de_var 7) da_nil))))))) (db_one (ds_ret de_bl)) db_nil))))))
  (db_cons (ds_par (i := 8) (j := 9) rfl sc_law.nd (da_cons (de_k true h_Store (hr.mono (by decide)) (da_cons (de_k false h_Talk_m (hr.mono (by decide)) (da_cons (de_wk (de_ix (de_var 2) de_int)) (da_cons (de_wk (de_ix (de_var 2) de_int)) da_nil)) (dk_cons (de_var 3) dk_nil)) da_nil) dk_nil) (da_cons (de_k true h_Store (hr.mono (by decide)) (da_cons (de_k false h_Talk_m (hr.mono (by decide)) (da_cons (de_wk (de_ix (de_var 2) de_int)) (da_cons (de_wk (de_ix (de_var 2) de_int)) da_nil)) (dk_cons (de_bin ok_add (de_var 3) de_int) dk_nil)) da_nil) dk_nil) da_nil)))
  (db_cons (ds_expr (de_m h_Store_say_all (hr.mono (by decide)) (de_var 8) (da_cons (de_listV rfl (de_dget hr.units1 (de_ix (de_var 7) de_int) de_str) F.b_list boot_list) da_nil)))
  (db_cons (ds_expr (de_m h_Store_say_all (hr.mono (by decide)) (de_var 9) (da_cons (de_listV rfl (de_dget hr.units1 (de_ix (de_var 7) de_int) de_str) F.b_list boot_list) da_nil)))
  (db_one (ds_ret (de_and (de_cmp (ok_eqOwn ho_Store_eq (hr.mono (by decide)) F.si_Store F.ss_Store F.sd_Store) (de_var 8) (de_ix (de_var 6) de_int)) (de_and (de_not (de_cmp (ok_eqOwn ho_Store_eq (hr.mono (by decide)) F.si_Store F.ss_Store F.sd_Store) (de_var 9) (de_ix (de_var 6) de_int))) (de_one (de_cmp (ok_eqOwn ho_Talk_eq (hr.mono (by decide)) F.si_Talk F.ss_Talk F.sd_Talk) (de_m0 h_Store_talk (hr.mono (by decide)) (de_ix (de_var 6) (de_un ok_neg de_int))) (de_m0 h_Store_talk (hr.mono (by decide)) (de_var 8)))))))))))))))))

end
end K84a
set_option maxRecDepth 100000
set_option maxHeartbeats 4000000
namespace K84a
open PySem L2 PyProof.Rows Ab
local macro_rules | `(tactic| walk_at "go1") => `(tactic| first
  | ((with_reducible apply setL_r); (· (first | exact .here | exact .there .here | exact .there (.there .here))); (· (rfl)); (· (rfl)))
  | ((with_reducible refine obj_r ?_ ?_); (· (first | rfl | decide +kernel)))
  | ((with_reducible apply fld_r); (· (rfl)))
  | ((with_reducible refine len_le ?_ ?_); (· (simp; done)))
  | ((with_reducible refine gTupA_r ?_ ?_); (· (rfl)))
  | dsimp only [List.nil_append, List.cons_append]
  | dsimp only [wipeA, unS]
  | dsimp only [sS]
  | ((with_reducible refine len_r ?_ ?_); (· (rfl))))
local macro_rules | `(tactic| walk_at "go1") => `(tactic| first
  | with_reducible refine isi_dic_list ?_
  | with_reducible refine isi_dic_dict ?_
  | ((with_reducible refine MulA.intL ?_ ?_); (· ((constructor <;> first | decide | omega))))
  | ((with_reducible refine MulA.intR ?_ ?_); (· ((constructor <;> first | decide | omega))))
  | ((with_reducible refine ModA.int ?_ ?_); (· (first | decide | assumption | omega)))
  | ((with_reducible refine DivA.int ?_ ?_); (· ((constructor <;> first | decide | assumption | omega))))
  | ((with_reducible refine PowA.int ?_ ?_); (· ((refine ⟨?_, ?_, ?_⟩ <;> first | decide | omega))))
  | ((with_reducible apply IxA.seq); (· (first | exact .tup | exact .fr | exact .tpn | exact .sk | exact .mu (.head _) | exact .mu (.tail _ (.head _)) | exact .mu (.tail _ (.tail _ (.head _))))); (· (rfl)))
  | ((with_reducible apply LenA.seq); (· (first | exact .tup | exact .fr | exact .tpn | exact .sk | exact .mu (.head _) | exact .mu (.tail _ (.head _)) | exact .mu (.tail _ (.tail _ (.head _))))))
  | ((with_reducible apply TupleA.seq); (· (first | exact .tup | exact .fr | exact .tpn | exact .sk | exact .mu (.head _) | exact .mu (.tail _ (.head _)) | exact .mu (.tail _ (.tail _ (.head _))))))
  | ((with_reducible apply ListA.seq); (· (first | exact .tup | exact .fr | exact .tpn | exact .sk | exact .mu (.head _) | exact .mu (.tail _ (.head _)) | exact .mu (.tail _ (.tail _ (.head _))))))
  | ((with_reducible refine rg_r ?_ ?_ ?_); (· (first | decide | omega)); (· (first | decide | omega))))
local macro_rules | `(tactic| walk_at "go1") => `(tactic| first
  | with_reducible refine isi_tpn_list ?_
  | with_reducible refine isi_tpn_dict ?_
  | with_reducible refine isi_lst_int ?_
  | with_reducible refine isi_lst_bool ?_
  | with_reducible refine isi_lst_str ?_
  | with_reducible refine isi_lst_tuple ?_
  | with_reducible refine isi_lst_list ?_
  | with_reducible refine isi_lst_dict ?_
  | with_reducible refine isi_dic_int ?_
  | with_reducible refine isi_dic_bool ?_
  | with_reducible refine isi_dic_str ?_
  | with_reducible refine isi_dic_tuple ?_)
local macro_rules | `(tactic| walk_at "go1") => `(tactic| first
  | with_reducible refine isi_str_list ?_
  | with_reducible refine isi_str_dict ?_
  | with_reducible refine isi_tup_int ?_
  | with_reducible refine isi_tup_bool ?_
  | with_reducible refine isi_tup_str ?_
  | with_reducible refine isi_tup_tuple ?_
  | with_reducible refine isi_tup_list ?_
  | with_reducible refine isi_tup_dict ?_
  | with_reducible refine isi_tpn_int ?_
  | with_reducible refine isi_tpn_bool ?_
  | with_reducible refine isi_tpn_str ?_
  | with_reducible refine isi_tpn_tuple ?_)
local macro_rules | `(tactic| walk_at "go1") => `(tactic| first
  | with_reducible refine isi_bl_list ?_
  | with_reducible refine isi_bl_dict ?_
  | with_reducible refine isi_int_int ?_
  | with_reducible refine isi_int_bool ?_
  | with_reducible refine isi_int_str ?_
  | with_reducible refine isi_int_tuple ?_
  | with_reducible refine isi_int_list ?_
  | with_reducible refine isi_int_dict ?_
  | with_reducible refine isi_str_int ?_
  | with_reducible refine isi_str_bool ?_
  | with_reducible refine isi_str_str ?_
  | with_reducible refine isi_str_tuple ?_)
local macro_rules | `(tactic| walk_at "go1") => `(tactic| first
  | with_reducible refine aTryNx_r ?_
  | with_reducible refine same_r ?_
  | with_reducible refine isi_non_int ?_
  | with_reducible refine isi_non_bool ?_
  | with_reducible refine isi_non_str ?_
  | with_reducible refine isi_non_tuple ?_
  | with_reducible refine isi_non_list ?_
  | with_reducible refine isi_non_dict ?_
  | with_reducible refine isi_bl_int ?_
  | with_reducible refine isi_bl_bool ?_
  | with_reducible refine isi_bl_str ?_
  | with_reducible refine isi_bl_tuple ?_)
local macro_rules | `(tactic| walk_at "go1") => `(tactic| first
  | with_reducible refine aDGet_r ?_
  | with_reducible refine aDGet1_r ?_
  | with_reducible refine aDPop_r ?_
  | with_reducible refine aDPut_r ?_
  | with_reducible refine aDicM_r ?_
  | with_reducible refine aDispM_r ?_
  | with_reducible refine aPar_r ?_
  | with_reducible refine aListV_r ?_
  | with_reducible refine aTabGet_r ?_
  | with_reducible refine aTupRg_r ?_
  | with_reducible refine par_r ?_
  | with_reducible refine aTryRet_r ?_)
local macro_rules | `(tactic| walk_at "go1") => `(tactic| first
  | with_reducible refine aTIx_r ?_
  | with_reducible refine tpn_r ?_
  | with_reducible refine aStep_r ?_
  | with_reducible refine tru_b ?_
  | with_reducible refine ite_nt ?_
  | with_reducible refine ite_nf ?_
  | with_reducible refine aTryK_r ?_
  | with_reducible refine iEnumTA_r ?_
  | with_reducible refine en_t ?_
  | with_reducible refine aLc2L_r ?_
  | with_reducible refine aLcC_r ?_
  | with_reducible refine iMemA_r ?_)
local macro_rules | `(tactic| walk_at "go1") => `(tactic| first
  | with_reducible refine nx_mk ?_
  | with_reducible refine rt_mk ?_
  | with_reducible refine bk_mk ?_
  | with_reducible refine ct_mk ?_
  | with_reducible refine ex_mk ?_
  | with_reducible refine len_r rfl ?_
  | with_reducible refine NeA_r ?_
  | with_reducible refine MaxA.two ?_
  | with_reducible refine MinA.two ?_
  | with_reducible refine aWk_r ?_
  | with_reducible refine wk_t ?_
  | with_reducible refine wk_k ?_)
local macro_rules | `(tactic| walk_at "go1") => `(tactic| first
  | with_reducible refine gN21 ?_
  | with_reducible refine gN22 ?_
  | with_reducible refine gN23 ?_
  | with_reducible refine rk_0 ?_
  | with_reducible refine rk_1 ?_
  | with_reducible refine rk_n0 ?_
  | with_reducible refine rk_n1 ?_
  | with_reducible refine rk_x0 ?_
  | with_reducible refine rk_x1 ?_
  | with_reducible refine rk_r ?_
  | with_reducible refine rk_n ?_
  | with_reducible refine rk_x ?_)
local macro_rules | `(tactic| walk_at "go1") => `(tactic| first
  | with_reducible refine gN9 ?_
  | with_reducible refine gN10 ?_
  | with_reducible refine gN11 ?_
  | with_reducible refine gN12 ?_
  | with_reducible refine gN13 ?_
  | with_reducible refine gN14 ?_
  | with_reducible refine gN15 ?_
  | with_reducible refine gN16 ?_
  | with_reducible refine gN17 ?_
  | with_reducible refine gN18 ?_
  | with_reducible refine gN19 ?_
  | with_reducible refine gN20 ?_)
local macro_rules | `(tactic| walk_at "go1") => `(tactic| first
  | with_reducible refine vN21 ?_
  | with_reducible refine vN22 ?_
  | with_reducible refine vN23 ?_
  | with_reducible refine gN0 ?_
  | with_reducible refine gN1 ?_
  | with_reducible refine gN2 ?_
  | with_reducible refine gN3 ?_
  | with_reducible refine gN4 ?_
  | with_reducible refine gN5 ?_
  | with_reducible refine gN6 ?_
  | with_reducible refine gN7 ?_
  | with_reducible refine gN8 ?_)
local macro_rules | `(tactic| walk_at "go1") => `(tactic| first
  | with_reducible refine vN9 ?_
  | with_reducible refine vN10 ?_
  | with_reducible refine vN11 ?_
  | with_reducible refine vN12 ?_
  | with_reducible refine vN13 ?_
  | with_reducible refine vN14 ?_
  | with_reducible refine vN15 ?_
  | with_reducible refine vN16 ?_
  | with_reducible refine vN17 ?_
  | with_reducible refine vN18 ?_
  | with_reducible refine vN19 ?_
  | with_reducible refine vN20 ?_)
local macro_rules | `(tactic| walk_at "go1") => `(tactic| first
  | with_reducible refine zi_lst ?_
  | with_reducible refine ite_t ?_
  | with_reducible refine ite_f ?_
  | with_reducible refine vN0 ?_
  | with_reducible refine vN1 ?_
  | with_reducible refine vN2 ?_
  | with_reducible refine vN3 ?_
  | with_reducible refine vN4 ?_
  | with_reducible refine vN5 ?_
  | with_reducible refine vN6 ?_
  | with_reducible refine vN7 ?_
  | with_reducible refine vN8 ?_)
local macro_rules | `(tactic| walk_at "go1") => `(tactic| first
  | with_reducible refine aAugS_r ?_
  | with_reducible refine rMut_r ?_
  | with_reducible refine IsA.non ?_
  | with_reducible refine IsNotA.non ?_
  | with_reducible refine bl_r ?_
  | with_reducible refine il_fr ?_
  | with_reducible refine il_sk ?_
  | with_reducible refine it_r ?_
  | with_reducible refine pt_r ?_
  | with_reducible refine st_r ?_
  | with_reducible refine en_fr ?_
  | with_reducible refine zi_tup ?_)
local macro_rules | `(tactic| walk_at "go1") => `(tactic| first
  | with_reducible refine aFrz_r ?_
  | with_reducible refine frz_1 ?_
  | with_reducible refine frz_2 ?_
  | with_reducible refine frz_3 ?_
  | with_reducible refine frz_4 ?_
  | with_reducible refine frz_int ?_
  | with_reducible refine frz_str ?_
  | with_reducible refine frz_bl ?_
  | with_reducible refine frz_tup ?_
  | with_reducible refine frz_lst ?_
  | with_reducible refine frz_non ?_
  | with_reducible refine NegA.int ?_)
local macro_rules | `(tactic| walk_at "go1") => `(tactic| first
  | with_reducible refine isn_str ?_
  | with_reducible refine isnt_str ?_
  | with_reducible refine isn_tup ?_
  | with_reducible refine isnt_tup ?_
  | with_reducible refine isn_lst ?_
  | with_reducible refine isnt_lst ?_
  | with_reducible refine isn_ref ?_
  | with_reducible refine isnt_ref ?_
  | with_reducible refine isn_exc ?_
  | with_reducible refine isnt_exc ?_
  | with_reducible refine isn_obj ?_
  | with_reducible refine isnt_obj ?_)
local macro_rules | `(tactic| walk_at "go1") => `(tactic| first
  | with_reducible refine GeA.int ?_
  | with_reducible refine LtA.str ?_
  | with_reducible refine LeA.str ?_
  | with_reducible refine EqA.int ?_
  | with_reducible refine EqA.str ?_
  | with_reducible refine EqA.bl ?_
  | with_reducible refine isn_non ?_
  | with_reducible refine isnt_non ?_
  | with_reducible refine isn_bl ?_
  | with_reducible refine isnt_bl ?_
  | with_reducible refine isn_int ?_
  | with_reducible refine isnt_int ?_)
local macro_rules | `(tactic| walk_at "go1") => `(tactic| first
  | with_reducible refine gNilA_r ?_
  | with_reducible refine aYes_r ?_
  | with_reducible refine rFro_r ?_
  | with_reducible refine aBreak_r ?_
  | with_reducible refine aCont_r ?_
  | with_reducible refine NeA_r ?_
  | with_reducible refine NotInA_r ?_
  | with_reducible refine AddA.int ?_
  | with_reducible refine SubA.int ?_
  | with_reducible refine LtA.int ?_
  | with_reducible refine GtA.int ?_
  | with_reducible refine LeA.int ?_)
local macro_rules | `(tactic| walk_at "go1") => `(tactic| first
  | with_reducible refine aFor_r ?_
  | with_reducible refine iLstA_r ?_
  | with_reducible refine iTupA_r ?_
  | with_reducible refine iRngA1_r ?_
  | with_reducible refine iRngA2_r ?_
  | with_reducible refine iStrA_r ?_
  | with_reducible refine iEnumA_r ?_
  | with_reducible refine iZipD_r ?_
  | with_reducible refine aLcL_r ?_
  | with_reducible refine aC_r ?_
  | with_reducible refine gSetL_r ?_
  | with_reducible refine gConsA_r ?_)
local macro_rules | `(tactic| walk_at "go1") => `(tactic| first
  | with_reducible refine aCall_r ?_
  | with_reducible refine aCallK_r ?_
  | with_reducible refine aMeth_r ?_
  | with_reducible refine aMk_r ?_
  | with_reducible refine aFld_r ?_
  | with_reducible refine aSetF_r ?_
  | with_reducible refine aRaise_r ?_
  | with_reducible refine aCB_r ?_
  | with_reducible refine aBM_r ?_
  | with_reducible refine aSl_r ?_
  | with_reducible refine aNoPart_r ?_
  | with_reducible refine aPart_r ?_)
local macro_rules | `(tactic| walk_at "go1") => `(tactic| first
  | with_reducible refine aAnd_r ?_
  | with_reducible refine aOr_r ?_
  | with_reducible refine aNot_r ?_
  | with_reducible refine aAndV_r ?_
  | with_reducible refine aOrV_r ?_
  | with_reducible refine aNotV_r ?_
  | with_reducible refine aIf_r ?_
  | with_reducible refine aTup_r ?_
  | with_reducible refine aLst_r ?_
  | with_reducible refine aLstM_r ?_
  | with_reducible refine aNil_r ?_
  | with_reducible refine aCons_r ?_)
local macro_rules | `(tactic| walk_at "go1") => `(tactic| first
  | with_reducible refine aSeq_r ?_
  | with_reducible refine aNext_r ?_
  | with_reducible refine aRet_r ?_
  | with_reducible refine aRetN_r ?_
  | with_reducible refine aDrop_r ?_
  | with_reducible refine aIfS_r ?_
  | with_reducible refine aAsg_r ?_
  | with_reducible refine aBin_r ?_
  | with_reducible refine aChain_r ?_
  | with_reducible refine aUn_r ?_
  | with_reducible refine aB_r' ?_
  | with_reducible refine aTru_r ?_)
local macro_rules | `(tactic| walk_at "go") => `(tactic| repeat walk_at "go1")
theorem lkS {sx : D} {N : List Str} {t : Int} : (talkF sx N t).lookup ("set_names" : Str) = some sx := by
  unfold talkF; rw [List.lookup_cons_self]
theorem lkN {sx : D} {N : List Str} {t : Int} : (talkF sx N t).lookup ("number_names" : Str) = some (D.tup (N.map D.str)) := by
  unfold talkF
  rw [List.lookup_cons, show (("number_names" : Str) == "set_names") = false by decide +kernel, List.lookup_cons_self]
theorem lkT {sx : D} {N : List Str} {t : Int} : (talkF sx N t).lookup ("top" : Str) = some (D.int t) := by
  unfold talkF
  rw [List.lookup_cons, show (("top" : Str) == "set_names") = false by decide +kernel, List.lookup_cons, show (("top" : Str) == "number_names") = false by decide +kernel, List.lookup_cons_self]
theorem lkM {sx : D} {N : List Str} {t : Int} {m : Str} (h : (("set_names" : Str) == m || ("number_names" : Str) == m || ("top" : Str) == m) = false) : (talkF sx N t).lookup m = none := by
  have hc : ∀ x : Str, (x == m) = false → (m == x) = false := fun x h => beq_eq_false_iff_ne.mpr fun e => (beq_eq_false_iff_ne.mp h) e.symm
  simp only [Bool.or_eq_false_iff] at h
  unfold talkF
  rw [List.lookup_cons, hc _ h.1.1, List.lookup_cons, hc _ h.1.2, List.lookup_cons, hc _ h.2]
  rfl
local macro_rules | `(tactic| walk_at "go1") => `(tactic| first
  | with_reducible refine fld_r lkS ?_
  | with_reducible refine fld_r lkN ?_
  | with_reducible refine fld_r lkT ?_
  | with_reducible refine obj_r (lkM (by decide +kernel)) ?_)
local macro_rules | `(tactic| walk_at "pm") => `(tactic| (simp only [mc_cons, mc_app, mc_nil, stC, moC] at *; omega))
theorem nlt_trans {a b c : List Nat} (h1 : ¬ b < a) (h2 : ¬ c < b) : ¬ c < a := by
  have h1' : a ≤ b := List.not_lt.mp h1
  have h2' : b ≤ c := List.not_lt.mp h2
  exact List.not_lt.mpr (List.le_trans h1' h2')
theorem leS_trans (a b c : Str) (h1 : leS a b = true) (h2 : leS b c = true) : leS a c = true := by
  simp only [leS, ltS, Bool.not_eq_true', decide_eq_false_iff_not] at *
  exact nlt_trans h1 h2
theorem leS_total (a b : Str) : (leS a b || leS b a) = true := by
  simp only [leS, ltS, Bool.or_eq_true, Bool.not_eq_true', decide_eq_false_iff_not]
  rcases List.le_total a.cps.toList b.cps.toList with h | h
  · exact Or.inl (List.not_lt.mpr h)
  · exact Or.inr (List.not_lt.mpr h)
theorem str_ext {a b : Str} (h : a.cps.toList = b.cps.toList) : a = b := by
  obtain ⟨x⟩ := a
  obtain ⟨y⟩ := b
  have : x = y := Array.toList_inj.mp h
  rw [this]
theorem leS_antisymm (a b : Str) (h1 : leS a b = true) (h2 : leS b a = true) : a = b := by
  simp only [leS, ltS, Bool.not_eq_true', decide_eq_false_iff_not] at *
  exact str_ext (List.le_antisymm (List.not_lt.mp h1) (List.not_lt.mp h2))
theorem rising_pw : ∀ (p : Str) (l : List Str), PyProof.Rows.risingS p l = true → (p :: l).Pairwise (fun a b => leS a b = true)
  | p, [], _ => List.pairwise_singleton _ _
  | p, x :: r, h => by
    have h' : (!PySem.Spec.ltCps x.cps.toList p.cps.toList && PyProof.Rows.risingS x r) = true := h
    rw [Bool.and_eq_true] at h'
    have ih := rising_pw x r h'.2
    have hx : leS p x = true := by
      have := h'.1
      rw [PyProof.Rows.ltCps_eq] at this
      exact this
    refine List.pairwise_cons.mpr ⟨fun y hy => ?_, ih⟩
    rcases List.mem_cons.mp hy with rfl | hy
    · exact hx
    · exact leS_trans _ _ _ hx ((List.pairwise_cons.mp ih).1 y hy)
theorem sorted_pw : ∀ (l : List Str), PyProof.Rows.sortedS l = true → l.Pairwise (fun a b => leS a b = true)
  | [], _ => List.Pairwise.nil
  | x :: r, h => rising_pw x r h
theorem srt_pw (l : List Str) : (srtS l).Pairwise (fun a b => leS a b = true) := List.pairwise_mergeSort leS_trans leS_total l
theorem srt_perm (l : List Str) : (srtS l).Perm l := List.mergeSort_perm _ _
theorem srt_unique {ys l : List Str} (h : ys.Perm l) (hs : PyProof.Rows.sortedS ys = true) : ys = srtS l :=
  List.Perm.eq_of_pairwise (fun a b _ _ h1 h2 => leS_antisymm a b h1 h2) (sorted_pw ys hs) (srt_pw l) (h.trans (srt_perm l).symm)
theorem vc_Talk_sets (a : Ad) : ∀ ds M P EX, sp_Talk_sets a ds M P EX → t_Talk_sets a (startA N_Talk_sets ds) M (retK P EX) := by
  intro ds M P EX ⟨sx, N, t, hd, hM, hp⟩
  subst hd hM
  unfold t_Talk_sets
  show (aRet _) [some (.obj a.Talk (talkF sx N t))] _ _
  walk_at "go"
  exact hp
theorem vc_Talk_numbers (a : Ad) : ∀ ds M P EX, sp_Talk_numbers a ds M P EX → t_Talk_numbers a (startA N_Talk_numbers ds) M (retK P EX) := by
  intro ds M P EX ⟨sx, N, t, hd, hM, hp⟩
  subst hd hM
  unfold t_Talk_numbers
  show (aRet _) [some (.obj a.Talk (talkF sx N t))] _ _
  walk_at "go"
  exact hp
/-- letters among the letters -/
theorem letters_mem (c : Nat) : decide (c ∈ (Str.ofString "abcdefghijklmnopqrstuvwxyz").cps.toList) = decide (97 ≤ c ∧ c ≤ 122) := by
  have e : (Str.ofString "abcdefghijklmnopqrstuvwxyz").cps.toList = (List.range 26).map (97 + ·) := by decide +kernel
  rw [e]
  refine decide_eq_decide.mpr ⟨fun h => ?_, fun h => ?_⟩
  · obtain ⟨k, hk, rfl⟩ := List.mem_map.mp h
    have := List.mem_range.mp hk
    omega
  · exact List.mem_map.mpr ⟨c - 97, List.mem_range.mpr (by omega), by omega⟩
theorem signs_get' {z : Str} {i : Nat} {d : D} (h : (Ab.signs z)[i]? = some d) : ∃ c, z.cps.toList[i]? = some c ∧ d = .str ⟨#[c]⟩ := by
  unfold Ab.signs at h
  rw [List.getElem?_map] at h
  cases q : z.cps.toList[i]? with
  | none => rw [q] at h; cases h
  | some c => rw [q] at h; cases h; exact ⟨c, rfl, rfl⟩
theorem vc_is_name (a : Ad) : ∀ ds M P EX, sp_is_name a ds M P EX → t_is_name a (startA N_is_name ds) M (retK P EX) := by
  intro ds M P EX ⟨d, hd, hM, ho, hp⟩
  subst hd hM
  unfold t_is_name
  show (aSeq _ _) [some d, none] _ _
  cases d with
  | str z =>
    have hz : z.length ≤ 100000 := ho.1
    walk_at "go"
    refine LenA.str hz ?_
    walk_at "go"
    refine ite_r (fun h1 => ?_) (fun h1 => ?_)
    · walk_at "go"
      refine ite_r (fun h2 => ?_) (fun h2 => ?_)
      · walk_at "go"
        have e : namD (.str z) = false := by
          have : decide (z.length ≤ 8) = false := by simp at h2; simp; omega
          simp [namD, namB, this]
        rw [e] at hp; exact hp
      · walk_at "go"
        have l8 : z.length ≤ 8 := by simp at h2; omega
        have l1 : 1 ≤ z.length := by simp at h1; omega
        refine LcA.pure ((z.cps.toList.map fun c => decide (97 ≤ c ∧ c ≤ 122)).map D.bl) (by simp [Ab.signs]) (fun i d hd => ?_) ?_
        · obtain ⟨c, hc, rfl⟩ := signs_get' hd
          walk_at "go"
          refine InA.sign ?_
          rw [letters_mem]
          refine lc_post (by have : z.cps.size = z.length := rfl; simp; omega) (by rw [List.getElem?_map, List.getElem?_map, hc]; rfl)
        · walk_at "go"
          refine AllA.lst .fr ?_
          walk_at "go"
          have e : namD (.str z) = (z.cps.toList.map fun c => decide (97 ≤ c ∧ c ≤ 122)).all _root_.id := by
            simp [namD, namB, l1, l8, List.all_map, Function.comp_def]
          rw [e] at hp; exact hp
    · walk_at "go"
      have e : namD (.str z) = false := by
        have : decide (1 ≤ z.length) = false := by simp at h1; simp; omega
        simp [namD, namB, this]
      rw [e] at hp; exact hp
  | non => walk_at "go"; exact hp
  | bl b => walk_at "go"; exact hp
  | int i => walk_at "go"; exact hp
  | tup l => walk_at "go"; exact hp
  | lst l => walk_at "go"; exact hp
  | dic l => walk_at "go"; exact hp
  | ty n => exact ho.elim
  | ref n => exact ho.elim
  | tpn n => exact ho.elim
  | lsk n => exact ho.elim
  | obj n l => exact ho.elim
  | exc n => exact ho.elim
theorem incB_zip : ∀ S : List Str, incB S = ((S.zip (S.drop 1)).map (fun p => ltS p.1 p.2)).all _root_.id
  | [] => rfl
  | [_] => rfl
  | a :: b :: r => by
    have ih := incB_zip (b :: r)
    simp only [incB, ih]
    rfl
theorem cut1 {l : List D} : cutL l (some 1) none = l.drop 1 := by
  unfold cutL
  have h1 : HT.sIx l.length 0 (some 1) = min 1 l.length := by
    unfold HT.sIx; simp
  have h2 : HT.sIx l.length l.length none = l.length := rfl
  rw [h1, h2]
  cases l with
  | nil => rfl
  | cons a r =>
    have : min 1 (a :: r).length = 1 := by simp
    rw [this, List.take_of_length_le (by simp)]
theorem vc_are_names (a : Ad) : ∀ ds M P EX, sp_are_names a ds M P EX → t_are_names a (startA N_are_names ds) M (retK P EX) := by
  intro ds M P EX ⟨x, S, many, hd, hx, hM, ⟨hs1, hs2⟩, hp⟩
  subst hd hM
  unfold t_are_names
  show (aSeq _ _) [some x, some (.int many), none, none, none] _ _
  rcases hx with rfl | rfl
  all_goals
    walk_at "go"
    refine ite_r (fun h1 => ?_) (fun h1 => ?_)
    · walk_at "go"
      have e : areB S many = false := by
        have : decide ((S.length : Int) ≤ many) = false := by simp at h1; simp; omega
        simp [areB, this]
      rw [e] at hp; exact hp
    · walk_at "go"
      have e1 : decide ((S.length : Int) ≤ many) = true := by simp at h1; simp; omega
      refine LcA.pure ((S.map namB).map D.bl) (by simp) (fun i d hd => ?_) ?_
      · rw [List.getElem?_map] at hd
        cases hq : S[i]? with
        | none => rw [hq] at hd; cases hd
        | some s =>
          rw [hq] at hd; cases hd
          walk_at "go"
          refine cm0 ⟨.str s, rfl, rfl, ?_, ?_⟩
          · have := hs2 s (List.mem_of_getElem? hq)
            exact ⟨by omega, this.2⟩
          · exact lc_post (by simp; omega) (by rw [List.getElem?_map, List.getElem?_map, hq]; rfl)
      · walk_at "go"
        refine AllA.lst .fr ?_
        walk_at "go"
        refine ite_r (fun h2 => ?_) (fun h2 => ?_)
        · walk_at "go"
          have e : areB S many = false := by
            have : S.all namB = false := by simpa [List.all_map, Function.comp_def] using h2
            simp [areB, this]
          rw [e] at hp; exact hp
        · walk_at "go"
          have e2 : S.all namB = true := by simpa [List.all_map, Function.comp_def] using h2
          refine SlA.tup ?_
          rw [cut1]
          walk_at "go"
          refine LcA.pure (((S.zip (S.drop 1)).map (fun p => ltS p.1 p.2)).map D.bl) (by simp [zipD]) (fun i d hd => ?_) ?_
          · obtain ⟨x1, x2, q1, q2, rfl⟩ := zipD_get hd
            rw [List.getElem?_map] at q1
            rw [← List.map_drop, List.getElem?_map] at q2
            cases r1 : S[i]? with
            | none => rw [r1] at q1; cases q1
            | some s1 =>
              cases r2 : (S.drop 1)[i]? with
              | none => rw [r2] at q2; cases q2
              | some s2 =>
                rw [r1] at q1; rw [r2] at q2
                cases q1; cases q2
                refine gTupA_r rfl ?_
                walk_at "go"
                refine lc_post (by simp; omega) ?_
                rw [List.getElem?_map, List.getElem?_map, show (S.zip (S.drop 1))[i]? = some (s1, s2) from List.getElem?_zip_eq_some.mpr ⟨r1, r2⟩]
                rfl
          · walk_at "go"
            refine AllA.lst .fr ?_
            walk_at "go"
            have e : areB S many = ((S.zip (S.drop 1)).map (fun p => ltS p.1 p.2)).all _root_.id := by
              rw [← incB_zip]
              simp [areB, e1, e2]
            rw [e] at hp; exact hp
theorem inS {M : Mem} {sx : D} {S : List Str} {n : Str} {P : AK} (hx : Tp sx S) (q : P (.bl (decide (n ∈ S))) M) : InA (.str n) sx M P := by
  have hs : SeqR M sx (S.map D.str) := by rcases hx with rfl | rfl <;> constructor
  refine InA.seq (vs := S.map V.str) (vx := .str n) hs rfl ?_ rfl ?_
  · clear hs hx q
    induction S with
    | nil => exact .nil
    | cons a r ih => exact .cons ⟨rfl, rfl⟩ ih
  · have e : inV (.str n) (S.map V.str) = decide (n ∈ S) := by
      clear hs hx q
      induction S with
      | nil => rfl
      | cons a r ih =>
        simp only [inV, List.map_cons, List.any_cons] at ih ⊢
        rw [ih]
        by_cases h : n = a
        · subst h; simp [eqV]
        · have h' : ¬ a = n := fun z => h z.symm
          simp [eqV, h, h']
    rw [e]; exact q
theorem vc_Talk_init (a : Ad) : ∀ ds M P EX, sp_Talk_init a ds M P EX → t_Talk_init a (startA N_Talk_init ds) M (retK P EX) := by
  intro ds M P EX ⟨x, sx, S, N, t, hd, hx, hM, hS, hN, hp, he⟩
  subst hd hM
  unfold t_Talk_init
  show (aSeq _ _) [some (.ref x), some sx, some (.tup (N.map D.str)), some (.int t), none] _ _
  walk_at "go"
  refine cm0 ⟨sx, S, 3, rfl, hx, rfl, hS, ?_⟩
  walk_at "go"
  refine ite_r (fun h1 => ?_) (fun h1 => ?_)
  · walk_at "go"
    refine he ?_
    have : areB S 3 = false := by simpa using h1
    simp [talkOk, this]
  have h1 : areB S 3 = true := by simpa using h1
  walk_at "go"
  refine cm0 ⟨_, N, 2, rfl, Or.inl rfl, rfl, hN, ?_⟩
  walk_at "go"
  refine ite_r (fun h2 => ?_) (fun h2 => ?_)
  · walk_at "go"
    refine he ?_
    have : areB N 2 = false := by simpa using h2
    simp [talkOk, this]
  have h2 : areB N 2 = true := by simpa using h2
  walk_at "go"
  refine LcA.pure ((N.map fun n => decide (n ∈ S)).map D.bl) (by simp) (fun i d hd => ?_) ?_
  · rw [List.getElem?_map] at hd
    cases hq : N[i]? with
    | none => rw [hq] at hd; cases hd
    | some s =>
      rw [hq] at hd; cases hd
      walk_at "go"
      refine inS hx ?_
      refine lc_post (by have := hN.1; simp; omega) (by rw [List.getElem?_map, List.getElem?_map, hq]; rfl)
  walk_at "go"
  refine AnyA.lst .fr ?_
  have e : (N.map fun n => decide (n ∈ S)).any _root_.id = N.any fun n => decide (n ∈ S) := by simp [List.any_map, Function.comp_def]
  rw [e]
  walk_at "go"
  refine ite_r (fun h3 => ?_) (fun h3 => ?_)
  · walk_at "go"
    refine he ?_
    unfold talkOk
    rw [h3]; simp
  walk_at "go"
  refine cm0 ⟨.int t, some 1, none, rfl, rfl, trivial, ?_⟩
  have e4 : wholeD (some 1) none (.int t) = decide (1 ≤ t) := by simp [wholeD]
  rw [e4]
  walk_at "go"
  refine ite_r (fun h4 => ?_) (fun h4 => ?_)
  · walk_at "go"
    refine he ?_
    have : decide (1 ≤ t) = false := by simpa using h4
    unfold talkOk
    rw [this]; simp
  have h4 : decide (1 ≤ t) = true := by simpa using h4
  have ok : talkOk S N t = true := by
    unfold talkOk
    rw [h1, h2, h3, h4]; rfl
  walk_at "go"
  refine ⟨x, [], [(x, .ins a.Talk [("set_names", sx)])], rfl, .here, by simp, ?_⟩
  walk_at "go"
  have p2 : putD "number_names" (D.tup (N.map D.str)) [(("set_names" : Str), sx)] = ([("set_names", sx), ("number_names", D.tup (N.map D.str))] : List (Str × D)) := by
    rw [putD, if_neg (by decide +kernel)]; rfl
  have p3 : putD "top" (D.int t) ([("set_names", sx), ("number_names", D.tup (N.map D.str))] : List (Str × D)) = talkF sx N t := by
    rw [putD, if_neg (by decide +kernel), putD, if_neg (by decide +kernel)]; rfl
  refine ⟨x, [("set_names", sx)], [(x, .ins a.Talk [("set_names", sx), ("number_names", .tup (N.map D.str))])], rfl, by rw [← p2]; exact .here, by simp, ?_⟩
  walk_at "go"
  refine ⟨x, [("set_names", sx), ("number_names", .tup (N.map D.str))], [(x, .ins a.Talk (talkF sx N t))], rfl, by rw [← p3]; exact .here, by simp, ?_⟩
  walk_at "go"
  exact hp ok
theorem ixN_nat9 {k h : Nat} (hl : h < k) : ixN k (h : Int) = some h := by
  unfold ixN
  rw [if_pos (by omega)]
  simp [hl]
theorem vc_l_take (a : Ad) : ∀ ds M P EX, sp_l_take a ds M P EX → t_l_take a (startA N_l_take ds) M (retK P EX) := by
  intro ds M P EX ⟨p, l, B, m, hd, hM, ⟨x, c, t, hl, hc0, hc1, ht0, ht1, hB⟩, hB1, hm0, hm1, hp⟩
  subst hd hM hl
  unfold t_l_take
  show (aSeq _ _) [some (.ref p), some (.int m), none, none, none] _ _
  walk_at "go"
  refine ite_r (fun h => ?_) (fun h => ?_)
  · walk_at "go"
    refine hp _ _ (Int.emod_nonneg _ (by omega)) (Int.emod_lt_of_pos _ hm0) ⟨_, _, _, rfl, hc0, hc1, ht0, by omega, by omega⟩
  · walk_at "go"
    refine PowA.int ⟨by omega, by omega, ?_⟩ ?_
    · have h1 : (69621 * (t + 1)) * (t + 1) ≤ 69621000000 * 1000000 := Int.mul_le_mul (by omega) (by omega) (by omega) (by omega)
      have h0 : 0 ≤ (69621 * (t + 1)) * (t + 1) := Int.mul_nonneg (by omega) (by omega)
      generalize (69621 * (t + 1)) * (t + 1) = w1 at *
      generalize ((c * 48271 + 104729 * (t + 1) + 101) % 2147483629) ^ Int.toNat 5 = w2 at *
      omega
    walk_at "go"
    refine hp _ _ (Int.emod_nonneg _ (by omega)) (Int.emod_lt_of_pos _ hm0) ⟨_, _, _, rfl, hc0, hc1, by omega, by omega, by omega⟩
theorem atI_nat {α : Type} {l : List α} {i : Nat} {x : α} (h : l[i]? = some x) : atI l (i : Int) = some x := by
  have hi := (List.getElem?_eq_some_iff.mp h).1
  unfold atI
  have : ixN l.length (i : Int) = some i := ixN_nat9 hi
  rw [this]; exact h
theorem vc_l_pool (a : Ad) : ∀ ds M P EX, sp_l_pool a ds M P EX → t_l_pool a (startA N_l_pool ds) M (retK P EX) := by
  intro ds M P EX ⟨ns, k, hd, hM, h0, h1, hp⟩
  subst hd hM
  unfold t_l_pool
  show (aSeq _ _) [some (.lsk (ns.map D.int)), some (.int k), none] _ _
  walk_at "go"
  refine ite_r (fun h => ?_) (fun h => ?_)
  · have h' : k < ns.length := by simpa using h
    walk_at "go"
    obtain ⟨i, rfl⟩ : ∃ i : Nat, k = i := ⟨k.toNat, by omega⟩
    refine IxA.seq .sk (atI_nat (x := D.int (ns[i]'(by omega))) (by rw [List.getElem?_map, List.getElem?_eq_getElem (by omega)]; rfl)) ?_
    walk_at "go"
    intro q hq
    walk_at "go"
    exact hp q _ ⟨_, _, _, rfl, Int.emod_nonneg _ (by decide), Int.emod_lt_of_pos _ (by decide), by omega, by omega, by omega⟩
  · walk_at "go"
    intro q hq
    walk_at "go"
    exact hp q _ ⟨_, _, _, rfl, Int.emod_nonneg _ (by decide), Int.emod_lt_of_pos _ (by decide), by omega, by omega, by omega⟩
theorem ixN_nat16 {k h : Nat} (hl : h < k) : ixN k (h : Int) = some h := by
  unfold ixN
  rw [if_pos (by omega)]
  simp [hl]
theorem atI_nat16 {α : Type} {l : List α} {i : Nat} {x : α} (h : l[i]? = some x) : atI l (i : Int) = some x := by
  have hi := (List.getElem?_eq_some_iff.mp h).1
  unfold atI
  have : ixN l.length (i : Int) = some i := ixN_nat16 hi
  rw [this]; exact h
theorem at_some16 {α : Type} {l : List α} {r : Int} (h0 : 0 ≤ r) (h1 : r < l.length) : ∃ x, atI l r = some x ∧ x ∈ l := by
  obtain ⟨i, rfl⟩ : ∃ i : Nat, r = i := ⟨r.toNat, by omega⟩
  have hi : i < l.length := by omega
  exact ⟨l[i], atI_nat16 (List.getElem?_eq_getElem hi), List.getElem_mem hi⟩
theorem Pool_mono16 {B B' : Int} {l : List D} (h : Pool B l) (h1 : B ≤ B') (h2 : B' ≤ 1000000) : Pool B' l := by
  obtain ⟨x, c, t, e, b1, b2, b3, b4, b5⟩ := h
  exact ⟨x, c, t, e, b1, b2, b3, by omega, h2⟩
/-- letters to draw from -/
def Lets (z : Str) : Prop := 0 < z.length ∧ z.length ≤ 26 ∧ ∀ c ∈ z.cps.toList, 97 ≤ c ∧ c ≤ 122
theorem signs_get16 {z : Str} {i : Nat} {d : D} (h : (Ab.signs z)[i]? = some d) : ∃ c, z.cps.toList[i]? = some c ∧ d = .str ⟨#[c]⟩ := by
  unfold Ab.signs at h
  rw [List.getElem?_map] at h
  cases q : z.cps.toList[i]? with
  | none => rw [q] at h; cases h
  | some c => rw [q] at h; cases h; exact ⟨c, rfl, rfl⟩
theorem str_app_len16 (a b : Str) : (a ++ b).length = a.length + b.length := by
  have e : (a ++ b).cps = a.cps ++ b.cps := rfl
  show (a ++ b).cps.size = _
  rw [e, Array.size_append]; rfl
theorem sing_len16 (c : Nat) : (⟨#[c]⟩ : Str).length = 1 := rfl
theorem join_sing : ∀ cs : List Nat, (Str.join (Str.ofString "") (cs.map fun c => (⟨#[c]⟩ : Str))).cps.toList = cs
  | [] => rfl
  | [c] => rfl
  | c :: d :: r => by
    have ih := join_sing (d :: r)
    have e : (Str.join (Str.ofString "") ((c :: d :: r).map fun c => (⟨#[c]⟩ : Str))).cps = (#[c] ++ (Str.ofString "").cps) ++ (Str.join (Str.ofString "") ((d :: r).map fun c => (⟨#[c]⟩ : Str))).cps := rfl
    have e0 : (Str.ofString "").cps = #[] := rfl
    rw [e, e0, Array.toList_append, ih]
    rfl
theorem txt_join_sing (cs : List Nat) : (Txt.join (Str.ofString "") (cs.map fun c => (⟨#[c]⟩ : Str))).cps.toList = cs := by
  have h := PyProof.Rows.join_closes (sep := Str.ofString "") (sep' := Str.ofString "") (ys := cs.map fun c => (⟨#[c]⟩ : Str)) rfl
  rw [eq_of_beq h]; exact join_sing cs
theorem at_zero16 {α : Type} {d : α} {r : List α} : atI (d :: r) 0 = some d := by
  unfold atI ixN
  rw [if_pos (by simp)]
  simp
/-- the word and its variants -/
def vars16 (w : Str) (k : Int) : List Str := w :: ((List.range 26).map (97 + ·)).map fun c => cutS w none (some k) ++ (⟨#[c]⟩ : Str) ++ cutS w (some (k + 1)) none
theorem cut_l16 (w : Str) (k : Nat) (hk : k < w.length) : (cutS w none (some (k : Int))).cps.toList = w.cps.toList.take k ∧ (cutS w (some ((k : Int) + 1)) none).cps.toList = w.cps.toList.drop (k + 1) := by
  have h1 : HT.sIx w.length 0 none = 0 := rfl
  have h2 : HT.sIx w.length w.length (some (k : Int)) = k := by
    have hk0 : ¬ ((k : Int) < 0) := by omega
    simp [HT.sIx, hk0]; try omega
  have h3 : HT.sIx w.length 0 (some ((k : Int) + 1)) = k + 1 := by
    have hk0 : ¬ ((k : Int) + 1 < 0) := by omega
    simp [HT.sIx, hk0]; try omega
  have h4 : HT.sIx w.length w.length none = w.length := rfl
  constructor
  · show (w.cps.toList.drop (HT.sIx w.length 0 none)).take (HT.sIx w.length w.length (some (k : Int)) - HT.sIx w.length 0 none) = _
    rw [h1, h2]; simp
  · show (w.cps.toList.drop (HT.sIx w.length 0 (some ((k : Int) + 1)))).take (HT.sIx w.length w.length none - HT.sIx w.length 0 (some ((k : Int) + 1))) = _
    rw [h3, h4]
    refine List.take_of_length_le ?_
    have : w.cps.size = w.length := rfl
    simp; omega
theorem nam_of16 {s : Str} (h1 : 1 ≤ s.cps.toList.length) (h8 : s.cps.toList.length ≤ 8) (hc : ∀ c ∈ s.cps.toList, 97 ≤ c ∧ c ≤ 122) : namB s = true := by
  have e : s.length = s.cps.toList.length := (Array.length_toList).symm
  unfold namB
  rw [e, decide_eq_true h1, decide_eq_true h8, List.all_eq_true.mpr fun c h => decide_eq_true (hc c h)]
  rfl
theorem sub_len16 : ∀ {l m : List Str}, l.Nodup → (∀ x ∈ l, x ∈ m) → l.length ≤ m.length
  | [], _, _, _ => Nat.zero_le _
  | a :: r, m, nd, h => by
    have h1 := sub_len16 (m := m.erase a) (List.nodup_cons.mp nd).2 fun x hx => by
      have hne : x ≠ a := fun e => (List.nodup_cons.mp nd).1 (by rw [← e]; exact hx)
      exact (List.mem_erase_of_ne hne).mpr (h x (List.mem_cons_of_mem _ hx))
    have h2 := List.length_erase_of_mem (h a List.mem_cons_self)
    have h3 : 0 < m.length := List.length_pos_of_mem (h a List.mem_cons_self)
    rw [List.length_cons]; omega
theorem inM16 {M : Mem} {q : Addr} {S : List Str} {n : Str} {P : AK} (hx : (q, MO.lst (S.map D.str)) ∈ M) (h : P (.bl (decide (n ∈ S))) M) : InA (.str n) (.ref q) M P := by
  refine InA.seq (vs := S.map V.str) (vx := .str n) (.mu hx) rfl ?_ rfl ?_
  · clear hx h
    induction S with
    | nil => exact .nil
    | cons a r ih => exact .cons ⟨rfl, rfl⟩ ih
  · have e : inV (.str n) (S.map V.str) = decide (n ∈ S) := by
      clear hx h
      induction S with
      | nil => rfl
      | cons a r ih =>
        simp only [inV, List.map_cons, List.any_cons] at ih ⊢
        rw [ih]
        by_cases h : n = a
        · subst h; simp [eqV]
        · have h' : ¬ a = n := fun z => h z.symm
          simp [eqV, h, h']
    rw [e]; exact h
theorem vc_l_names (a : Ad) : ∀ ds M P EX, sp_l_names a ds M P EX → t_l_names a (startA N_l_names ds) M (retK P EX) := by
  intro ds M P EX ⟨p, l, B, n, hd, hM, hl, hB, hn, hp⟩
  subst hd hM
  unfold t_l_names
  show (aSeq _ _) [some (.ref p), some (.int n), none, none, none, none, none, none, none, none, none] _ _
  walk_at "go"
  refine cmA ⟨p, l, B, 2, rfl, rfl, hl, by omega, by omega, by omega, fun r1 l1 r10 r11 hl1 => ?_⟩
  obtain ⟨d, ed, hd⟩ := at_some16 (l := [D.str "abcdefghijklmnopqrstuvwxyz", .str "ab"]) r10 (by simpa using r11)
  have hL : ∃ z, d = .str z ∧ Lets z := by
    simp only [List.mem_cons, List.not_mem_nil, or_false] at hd
    rcases hd with rfl | rfl
    · exact ⟨_, rfl, by decide +kernel, by decide +kernel, by decide +kernel⟩
    · exact ⟨_, rfl, by decide +kernel, by decide +kernel, by decide +kernel⟩
  obtain ⟨z, rfl, z0, z1, z2⟩ := hL
  refine IxA.seq .fr ed ?_
  walk_at "go"
  intro q hq
  walk_at "go"
  refine ⟨fun i ρ' M' => ∃ (x4 x5 x6 x7 : Option D) (l' : List D) (ns : List Str), ρ' = [some (.ref p), some (.int n), some (.str z), some (.ref q), x4, x5, x6, x7, none, none, none] ∧ M' = [(p, .lst l'), (q, .lst (ns.map D.str))] ∧ ns.length = i ∧ ns.Nodup ∧ (∀ s ∈ ns, namB s = true) ∧ Pool (B + 1 + 12 * i) l', ⟨none, none, none, none, l1, [], rfl, rfl, rfl, List.nodup_nil, by simp, by simpa using hl1⟩, fun i d ρ' M' hx hj => ?_, fun ρ' M' hj => ?_⟩
  · obtain ⟨x4, x5, x6, x7, l', ns, rfl, rfl, hns, nd, nm, hl'⟩ := hj
    have hi := (rngD_get hx).1
    walk_at "go"
    refine ⟨.str, ?_⟩
    walk_at "go"
    refine cm1 ⟨p, l', B + 1 + 12 * i, 8, rfl, rfl, hl', by omega, by omega, by omega, fun r2 l2 r20 r21 hl2 => ?_⟩
    walk_at "go"
    have hz : z.length ≤ 100000 := by omega
    refine ⟨fun i2 acc M' => ∃ (l3 : List D) (cs : List Nat), M' = [(p, .lst l3), (q, .lst (ns.map D.str))] ∧ acc = cs.map (fun c => D.str ⟨#[c]⟩) ∧ cs.length = i2 ∧ (∀ c ∈ cs, 97 ≤ c ∧ c ≤ 122) ∧ Pool (B + 2 + 12 * i + i2) l3, ⟨l2, [], rfl, rfl, rfl, by simp, Pool_mono16 hl2 (by simp; omega) (by simp; omega)⟩, fun i2 d2 acc M' hx2 hj => ?_, fun acc M' hj => ?_⟩
    · obtain ⟨l3, cs, rfl, rfl, hcs, hcl, hl3⟩ := hj
      have hi2 := (rngD_get hx2).1
      walk_at "go"
      refine LenA.str hz ?_
      walk_at "go"
      refine cm1 ⟨p, l3, B + 2 + 12 * i + i2, (z.length : Int), rfl, rfl, hl3, by omega, by omega, by omega, fun r3 l4 r30 r31 hl4 => ?_⟩
      obtain ⟨c, ec, hc⟩ := at_some16 (l := z.cps.toList) r30 (by rw [Array.length_toList]; exact r31)
      refine IxA.str hz ec ?_
      refine ⟨by simp; omega, l4, cs ++ [c], rfl, by simp, by simp [hcs], fun x hx => ?_, Pool_mono16 hl4 (by push_cast; omega) (by push_cast; omega)⟩
      rcases List.mem_append.mp hx with y | y
      · exact hcl x y
      · rw [List.mem_singleton.mp y]; exact z2 c hc
    · obtain ⟨l3, cs, rfl, rfl, hcs, hcl, hl3⟩ := hj
      rw [rngD_length] at hcs hl3
      walk_at "go"
      rw [show cs.map (fun c => D.str ⟨#[c]⟩) = (cs.map fun c => (⟨#[c]⟩ : Str)).map D.str by simp]
      have hc8 : cs.length ≤ 8 := by omega
      have hc1 : 1 ≤ cs.length := by omega
      refine JoinA.mk .fr (by
        have e0 : (Str.ofString "").length = 0 := rfl
        rw [e0, List.map_map]
        have : (cs.map ((fun x : Str => x.length) ∘ fun c => (⟨#[c]⟩ : Str))).sum ≤ cs.length := by
          clear hcs hcl hl3 hc8 hc1
          induction cs with
          | nil => simp
          | cons c r ih => simp only [List.map_cons, List.sum_cons, List.length_cons, Function.comp_apply] at *
                           have : (⟨#[c]⟩ : Str).length = 1 := rfl
                           omega
        omega) ?_
      have hw := txt_join_sing cs
      generalize Txt.join (Str.ofString "") (cs.map fun c => (⟨#[c]⟩ : Str)) = w at hw
      have hwl : w.length = cs.length := by rw [← hw]; exact (Array.length_toList).symm
      walk_at "go"
      refine LenA.str (by omega) ?_
      walk_at "go"
      refine cm1 ⟨p, l3, B + 2 + 12 * i + (1 + r2).toNat, (w.length : Int), rfl, rfl, hl3, by omega, by omega, by omega, fun at' l5 r50 r51 hl5 => ?_⟩
      have hwz : w.length ≤ 100000 := by omega
      have v1 := cutS_length w none (some at')
      have v2 := cutS_length w (some (at' + 1)) none
      walk_at "go"
      refine LcA.pure (((List.range 26).map (97 + ·)).map fun c => D.str (cutS w none (some at') ++ (⟨#[c]⟩ : Str) ++ cutS w (some (at' + 1)) none)) (by rw [List.length_map, List.length_map, List.length_range]; decide +kernel) (fun i3 d3 hd3 => ?_) ?_
      · have ab : (Str.ofString "abcdefghijklmnopqrstuvwxyz").cps.toList = (List.range 26).map (97 + ·) := by decide +kernel
        obtain ⟨c3, ec3, rfl⟩ := signs_get16 hd3
        rw [ab] at ec3
        repeat first
          | walk_at "go1"
          | refine SlA.str hwz ?_
          | refine AddA.str (by first | omega | (simp only [str_app_len16, sing_len16]; omega)) ?_
        refine lc_post (by simp) ?_
        rw [List.getElem?_map, ec3]
        rfl
      · walk_at "go"
        refine AddA.lst .fr .fr (by simp) ?_
        rw [show [D.str w] ++ ((List.range 26).map (97 + ·)).map (fun c => D.str (cutS w none (some at') ++ (⟨#[c]⟩ : Str) ++ cutS w (some (at' + 1)) none)) = (vars16 w at').map D.str by simp [vars16]]
        walk_at "go"
        refine LcA.fil (fun i => ((vars16 w at')[i]?).bind fun s => if s ∈ ns then none else some (D.str s)) (fun i4 d4 hd4 => ?_) ?_
        · rw [List.getElem?_map] at hd4
          cases hq4 : (vars16 w at')[i4]? with
          | none => rw [hq4] at hd4; cases hd4
          | some s =>
            rw [hq4] at hd4; cases hd4
            have hi4 := (List.getElem?_eq_some_iff.mp hq4).1
            have hv : (vars16 w at').length = 27 := by simp [vars16]
            walk_at "go"
            refine inM16 (S := ns) (by simp) ?_
            walk_at "go"
            refine ite_r (fun h => ?_) (fun h => ?_)
            · walk_at "go"
              refine fil_yes (by omega) ?_
              have : s ∉ ns := by simpa using h
              show (((vars16 w at')[i4]?).bind _) = _
              rw [hq4]; exact if_neg this
            · refine fil_no ?_
              have : s ∈ ns := by
                cases q : decide (s ∈ ns) with
                | true => exact of_decide_eq_true q
                | false => rw [q] at h; cases h
              show (((vars16 w at')[i4]?).bind _) = _
              rw [hq4]; exact if_pos this
        · rw [List.length_map, fil_all]
          walk_at "go"
          refine ⟨.mlst (l := ns.map D.str) (by simp), ?_⟩
          walk_at "go"
          have hvn : ∀ s ∈ vars16 w at', namB s = true := by
            obtain ⟨k, rfl⟩ : ∃ k : Nat, at' = k := ⟨at'.toNat, by omega⟩
            obtain ⟨ct1, ct2⟩ := cut_l16 w k (by omega)
            intro s hs
            rcases List.mem_cons.mp hs with rfl | hs
            · exact nam_of16 (by rw [hw]; exact hc1) (by rw [hw]; exact hc8) (by rw [hw]; exact hcl)
            · obtain ⟨c0, hc0, rfl⟩ := List.mem_map.mp hs
              obtain ⟨m0, hm0, rfl⟩ := List.mem_map.mp hc0
              have hm0 := List.mem_range.mp hm0
              have e : (cutS w none (some (k : Int)) ++ (⟨#[97 + m0]⟩ : Str) ++ cutS w (some ((k : Int) + 1)) none).cps.toList = w.cps.toList.take k ++ [97 + m0] ++ w.cps.toList.drop (k + 1) := by
                rw [← ct1, ← ct2]
                have e1 : (cutS w none (some (k : Int)) ++ (⟨#[97 + m0]⟩ : Str) ++ cutS w (some ((k : Int) + 1)) none).cps = ((cutS w none (some (k : Int))).cps ++ #[97 + m0]) ++ (cutS w (some ((k : Int) + 1)) none).cps := rfl
                rw [e1]; simp
              refine nam_of16 ?_ ?_ ?_
              · rw [e]; simp; omega
              · rw [e, hw]; simp; omega
              · rw [e, hw]
                intro x hx
                simp only [List.mem_append, List.mem_singleton] at hx
                rcases hx with (y | y) | y
                · exact hcl x (List.mem_of_mem_take y)
                · omega
                · exact hcl x (List.mem_of_mem_drop y)
          have ne : ∃ s ∈ vars16 w at', s ∉ ns := by
            apply Classical.byContradiction
            intro h
            have nd26 : (((List.range 26).map (97 + ·)).map fun c => cutS w none (some at') ++ (⟨#[c]⟩ : Str) ++ cutS w (some (at' + 1)) none).Nodup := by
              rw [List.map_map]
              refine List.pairwise_map.mpr (List.nodup_range.imp fun {a b} hab e => hab ?_)
              have e2 := congrArg (fun x : Str => x.cps.toList) e
              have e1 : ∀ m : Nat, (cutS w none (some at') ++ (⟨#[97 + m]⟩ : Str) ++ cutS w (some (at' + 1)) none).cps.toList = (cutS w none (some at')).cps.toList ++ ((97 + m) :: (cutS w (some (at' + 1)) none).cps.toList) := fun m => by
                have e1 : (cutS w none (some at') ++ (⟨#[97 + m]⟩ : Str) ++ cutS w (some (at' + 1)) none).cps = ((cutS w none (some at')).cps ++ #[97 + m]) ++ (cutS w (some (at' + 1)) none).cps := rfl
                rw [e1]; simp
              simp only [Function.comp_apply, e1] at e2
              have e3 := List.append_cancel_left e2
              have := (List.cons.inj e3).1
              omega
            have := sub_len16 nd26 (m := ns) fun x hx => Classical.byContradiction fun q => h ⟨x, List.mem_cons_of_mem _ hx, q⟩
            simp at this
            omega
          generalize hL : (vars16 w at').filterMap (fun s => if s ∈ ns then none else some (D.str s)) = L
          have hne : L ≠ [] := by
            obtain ⟨s, hs, hq⟩ := ne
            intro e
            have : D.str s ∈ L := by
              rw [← hL]
              exact List.mem_filterMap.mpr ⟨s, hs, by rw [if_neg hq]⟩
            rw [e] at this
            exact absurd this List.not_mem_nil
          cases hc : L with
          | nil => exact absurd hc hne
          | cons d0 r =>
            have hd0 : d0 ∈ L := by rw [hc]; exact List.mem_cons_self
            rw [← hL] at hd0
            obtain ⟨s, hs, hq⟩ := List.mem_filterMap.mp hd0
            by_cases q0 : s ∈ ns
            · rw [if_pos q0] at hq; cases hq
            · rw [if_neg q0] at hq; cases hq
              refine IxA.seq .fr at_zero16 ?_
              walk_at "go"
              refine AppA.mk (.there .here) (by simp; omega) ?_
              walk_at "go"
              refine ⟨_, _, _, _, l5, ns ++ [s], rfl, by simp, by simp [hns], ?_, fun x hx => ?_, Pool_mono16 hl5 (by push_cast; omega) (by push_cast; omega)⟩
              · exact List.nodup_append.mpr ⟨nd, by simp, fun a ha b hb e => q0 (by rw [List.mem_singleton.mp hb] at e; rw [← e]; exact ha)⟩
              · rcases List.mem_append.mp hx with y | y
                · exact nm x y
                · rw [List.mem_singleton.mp y]; exact hvn s hs
  · obtain ⟨x4, x5, x6, x7, l', ns, rfl, rfl, hns, nd, nm, hl'⟩ := hj
    walk_at "go"
    rw [rngD_length] at hns hl'
    exact hp ns l' (by simpa using hns) nd nm (Pool_mono16 hl' (by simp; omega) (by omega))
theorem pw_inc : ∀ l : List Str, l.Pairwise (fun a b => leS a b = true) → l.Nodup → incB l = true
  | [], _, _ => rfl
  | [_], _, _ => rfl
  | a :: b :: r, h, nd => by
    have ih := pw_inc (b :: r) (List.pairwise_cons.mp h).2 (List.nodup_cons.mp nd).2
    have hab := (List.pairwise_cons.mp h).1 b List.mem_cons_self
    have ne : a ≠ b := fun e => (List.nodup_cons.mp nd).1 (by rw [e]; exact List.mem_cons_self)
    have lt : ltS a b = true := by
      cases q : ltS a b with
      | true => rfl
      | false =>
        have : leS b a = true := by simp [leS, q]
        exact absurd (leS_antisymm a b hab this) ne
    simp [incB, lt, ih]
theorem cut_to {l : List D} {k : Nat} (h : k ≤ l.length) : cutL l none (some (k : Int)) = l.take k := by
  unfold cutL
  have h1 : HT.sIx l.length 0 none = 0 := rfl
  have h2 : HT.sIx l.length l.length (some (k : Int)) = k := by
    have hk0 : ¬ ((k : Int) < 0) := by omega
    simp [HT.sIx, hk0]; try omega
  rw [h1, h2]; simp
theorem cut_from {l : List D} {k : Nat} (h : k ≤ l.length) : cutL l (some (k : Int)) none = l.drop k := by
  unfold cutL
  have h1 : HT.sIx l.length 0 (some (k : Int)) = k := by
    have hk0 : ¬ ((k : Int) < 0) := by omega
    simp [HT.sIx, hk0]; try omega
  have h2 : HT.sIx l.length l.length none = l.length := rfl
  rw [h1, h2, List.take_of_length_le (by simp)]
theorem vc_l_tongue (a : Ad) : ∀ ds M P EX, sp_l_tongue a ds M P EX → t_l_tongue a (startA N_l_tongue ds) M (retK P EX) := by
  intro ds M P EX ⟨p, l, B, hd, hM, hl, hB, hp⟩
  subst hd hM
  unfold t_l_tongue
  show (aSeq _ _) [some (.ref p), some (.int 3), some (.int 2), none, none] _ _
  walk_at "go"
  refine cmA ⟨p, l, B, 4, rfl, rfl, hl, by omega, by omega, by omega, fun r1 l1 r10 r11 hl1 => ?_⟩
  walk_at "go"
  refine cmA ⟨p, l1, B + 1, 3, rfl, rfl, hl1, by omega, by omega, by omega, fun r2 l2 r20 r21 hl2 => ?_⟩
  walk_at "go"
  obtain ⟨k, rfl⟩ : ∃ k : Nat, r1 = k := ⟨r1.toNat, by omega⟩
  obtain ⟨m, rfl⟩ : ∃ m : Nat, r2 = m := ⟨r2.toNat, by omega⟩
  refine cmA ⟨p, l2, B + 1 + 1, k + m, by simp, rfl, hl2, by omega, by omega, fun ns l3 hn nd nm hl3 => ?_⟩
  walk_at "go"
  have hk : k ≤ (ns.map D.str).length := by simp; omega
  refine SlA.lst .fr ?_
  rw [cut_to hk, ← List.map_take]
  walk_at "go"
  refine SortedA.txts .fr (by simp; omega) fun ys1 q1 q2 => ?_
  have e1 := srt_unique q1 q2
  subst e1
  walk_at "go"
  refine TupleNA.lst .fr ?_
  walk_at "go"
  refine SlA.lst .fr ?_
  rw [cut_from hk, ← List.map_drop]
  walk_at "go"
  refine SortedA.txts .fr (by simp; omega) fun ys2 q3 q4 => ?_
  have e2 := srt_unique q3 q4
  subst e2
  walk_at "go"
  refine TupleNA.lst .fr ?_
  walk_at "go"
  have p1 := srt_perm (ns.take k)
  have p2 := srt_perm (ns.drop k)
  have nd' : (ns.take k ++ ns.drop k).Nodup := by rw [List.take_append_drop]; exact nd
  obtain ⟨n1, n2, n3⟩ := List.nodup_append.mp nd'
  have tg : Tongue (srtS (ns.take k)) (srtS (ns.drop k)) := by
    refine ⟨?_, ?_, fun s hs => nm s ?_, fun s hs => nm s ?_, pw_inc _ (srt_pw _) (p1.symm.nodup n1), pw_inc _ (srt_pw _) (p2.symm.nodup n2), fun n hn hs => ?_⟩
    · rw [p1.length_eq]; simp; omega
    · rw [p2.length_eq]; simp; omega
    · exact List.mem_of_mem_take (p1.mem_iff.mp hs)
    · exact List.mem_of_mem_drop (p2.mem_iff.mp hs)
    · exact n3 n (p1.mem_iff.mp hs) n (p2.mem_iff.mp hn) rfl
  obtain ⟨x, c, t, e, b1, b2, b3, b4, b5⟩ := hl3
  exact hp _ _ _ tg ⟨x, c, t, e, b1, b2, b3, by omega, by omega⟩
theorem vc_is_whole (a : Ad) : ∀ ds M P EX, sp_is_whole a ds M P EX → t_is_whole a (startA N_is_whole ds) M (retK P EX) := by
  intro ds M P EX ⟨d, lo, hi, hd, hM, hg, hp⟩
  subst hd hM
  unfold t_is_whole
  show (aSeq _ _) [some d, some (oD lo), some (oD hi)] _ _
  cases d with
  | int i =>
    cases lo with
    | none =>
      cases hi with
      | none =>
        show (aSeq _ _) [some (.int i), some .non, some .non] _ _
        walk_at "go"
        exact hp
      | some h =>
        show (aSeq _ _) [some (.int i), some .non, some (.int h)] _ _
        walk_at "go"
        simpa [wholeD] using hp
    | some l =>
      cases hi with
      | none =>
        show (aSeq _ _) [some (.int i), some (.int l), some .non] _ _
        walk_at "go"
        refine ite_r (fun h => ?_) (fun h => ?_)
        · walk_at "go"
          have : decide (l ≤ i) = false := by simp at h; simp; omega
          simpa [wholeD, this] using hp
        · walk_at "go"
          have : decide (l ≤ i) = true := by simp at h; simp; omega
          simpa [wholeD, this] using hp
      | some h' =>
        show (aSeq _ _) [some (.int i), some (.int l), some (.int h')] _ _
        walk_at "go"
        refine ite_r (fun h => ?_) (fun h => ?_)
        · walk_at "go"
          have : decide (l ≤ i) = false := by simp at h; simp; omega
          simpa [wholeD, this] using hp
        · walk_at "go"
          have : decide (l ≤ i) = true := by simp at h; simp; omega
          simpa [wholeD, this] using hp
  | non => walk_at "go"; exact hp
  | bl b => walk_at "go"; exact hp
  | str i => walk_at "go"; exact hp
  | tup l => walk_at "go"; exact hp
  | lst l => walk_at "go"; exact hp
  | dic l => walk_at "go"; exact hp
  | ty n => exact hg.elim
  | ref n => exact hg.elim
  | tpn n => exact hg.elim
  | lsk n => exact hg.elim
  | obj n l => exact hg.elim
  | exc n => exact hg.elim
theorem star21 {gs : AGs} {x : D} {r : List D} {ρ : Rho} {M : Mem} {PR : Rho → Mem → Prop} (hl : r.length ≤ 10000) (h : gs [x, .lst r] ρ M PR) : gStarA 2 1 gs (.tup (x :: r)) ρ M PR := by
  refine ⟨x :: r, Or.inl rfl, by omega, by simp, by simp; omega, ?_⟩
  simpa using h
theorem inTp {M : Mem} {sx : D} {S : List Str} {n : Str} {P : AK} (hx : Tp sx S) (q : P (.bl (decide (n ∈ S))) M) : InA (.str n) sx M P := by
  rcases hx with rfl | rfl
  · exact in_strs .tup q
  · exact in_strs .tpn q
theorem tabW : tab_WORDS_terms = tW := rfl
theorem tabJ : tab_JOINS = tJ := rfl
theorem lst_len {l : List D} {M : Mem} {P : AK} (h : P (.int (l.length : Int)) M) : LenA [.lst l] M P := LenA.seq .fr h
theorem eq_ti {o : Option Int} {j : Int} {M : Mem} {P : AK} (h : P (.bl (decide (o = some j))) M) : EqA ((o.map D.int).getD .non) (.int j) M P := by
  cases o with
  | none => exact EqA.py (p := .none) (q := .int j) .non (.int j) rfl rfl h
  | some i =>
    refine EqA.int ?_
    have e : decide (some i = some j) = decide (i = j) := by simp
    rw [e] at h
    exact h
theorem vc_parts_of (n : Nat) (a : Ad) : ∀ ds M P EX, sp_parts_of (n + 1) a ds M P EX → t_parts_of n a (startA N_parts_of ds) M (retK P EX) := by
  intro ds M P EX ⟨sx, S, N, t, d, left, hd, hx, hM, hg, hn, hp⟩
  subst hd hM
  unfold t_parts_of
  show (aSeq _ _) [some (.obj a.Talk (talkF sx N t)), some d, some (.int left), none, none, none, none] _ _
  walk_at "go"
  refine ite_r (fun h => ?_) (fun h => ?_)
  · walk_at "go"
    have h0 : left = 0 := by simpa using h
    subst h0
    simpa [partsD] using hp
  obtain ⟨m, rfl⟩ : ∃ m, left = m + 1 := ⟨left - 1, by simp at h; omega⟩
  cases hg with
  | str s =>
    walk_at "go"
    refine cm0 ⟨sx, N, t, rfl, rfl, ?_⟩
    refine inTp hx ?_
    walk_at "go"
    refine ite_r (fun h => ?_) (fun h => ?_)
    · walk_at "go"
      have h' : s ∈ S := by simpa using h
      simpa [partsD, h'] using hp
    · walk_at "go"
      have h' : ¬ s ∈ S := by simpa using h
      simpa [partsD, h'] using hp
  | non => walk_at "go"; simpa [partsD] using hp
  | bl b => walk_at "go"; simpa [partsD] using hp
  | int i => walk_at "go"; simpa [partsD] using hp
  | lst l => walk_at "go"; simpa [partsD] using hp
  | dic l => walk_at "go"; simpa [partsD] using hp
  | tup hl hgs =>
    rename_i l
    walk_at "go"
    refine ⟨l, rfl, rfl, ?_⟩
    walk_at "go"
    cases l with
    | nil =>
      refine ⟨fun _ => ?_, fun z => absurd z (by simp)⟩
      walk_at "go"
      simpa [partsD] using hp
    | cons x r =>
      refine ⟨fun z => absurd z (by simp), fun _ => ?_⟩
      walk_at "go"
      have hr : r.length ≤ 10000 := by simp at hl; omega
      refine star21 hr ?_
      walk_at "go"
      have hgx := hgs x List.mem_cons_self
      cases hgx with
      | str w =>
        walk_at "go"
        refine eq_ti ?_
        walk_at "go"
        rw [tabW]
        refine ite_r (fun h => ?_) (fun h => ?_)
        · walk_at "go"
          have h' : ¬ tW.lookup w = some (r.length : Int) := by simpa using h
          simpa [partsD, h'] using hp
        · have h' : tW.lookup w = some (r.length : Int) := by simpa using h
          walk_at "go"
          refine LcA.pure ((r.map (partsD S m)).map D.int) (by simp) (fun i d hd => ?_) ?_
          · walk_at "go"
            refine cm0 ⟨sx, S, N, t, d, m, by rw [show ((m + 1 : Nat) : Int) - 1 = (m : Int) by omega]; rfl, hx, rfl, hgs d (List.mem_cons_of_mem _ (List.mem_of_getElem? hd)), by omega, ?_⟩
            refine lc_post (by simp; omega) (by rw [List.getElem?_map, List.getElem?_map, hd]; rfl)
          · walk_at "go"
            refine in_ints .fr ?_
            walk_at "go"
            refine ite_r (fun h2 => ?_) (fun h2 => ?_)
            · walk_at "go"
              have h3 : (0 : Int) ∈ r.map (partsD S m) := by simpa using h2
              have e : partsD S (m + 1) (.tup (.str w :: r)) = 0 := by rw [partsD, if_pos h', if_pos h3]
              rw [e] at hp; exact hp
            · walk_at "go"
              refine SumA.lst .fr ?_
              walk_at "go"
              have h3 : ¬ (0 : Int) ∈ r.map (partsD S m) := by simpa using h2
              have e : partsD S (m + 1) (.tup (.str w :: r)) = 1 + (r.map (partsD S m)).sum := by rw [partsD, if_pos h', if_neg h3]
              rw [e] at hp; exact hp
      | non => walk_at "go"; simpa [partsD] using hp
      | bl b => walk_at "go"; simpa [partsD] using hp
      | int i => walk_at "go"; simpa [partsD] using hp
      | lst l => walk_at "go"; simpa [partsD] using hp
      | dic l => walk_at "go"; simpa [partsD] using hp
      | tup => walk_at "go"; simpa [partsD] using hp
theorem at0 {α : Type} {x : α} {r : List α} : atI (x :: r) 0 = some x := by
  unfold atI ixN
  rw [if_pos (by simp)]
  simp
theorem at1 {α : Type} {x y : α} {r : List α} : atI (x :: y :: r) 1 = some y := by
  unfold atI ixN
  rw [if_pos (by simp)]
  simp; rw [if_pos (by omega)]; simp
theorem at2 {α : Type} {x y z : α} {r : List α} : atI (x :: y :: z :: r) 2 = some z := by
  unfold atI ixN
  rw [if_pos (by simp)]
  simp; rw [if_pos (by omega)]; simp
theorem vc_is_term (a : Ad) : ∀ ds M P EX, sp_is_term a ds M P EX → t_is_term a (startA N_is_term ds) M (retK P EX) := by
  intro ds M P EX ⟨sx, S, N, t, d, hd, hx, hM, hg, hp⟩
  subst hd hM
  unfold t_is_term
  show (aRet _) [some (.obj a.Talk (talkF sx N t)), some d] _ _
  walk_at "go"
  refine cm0 ⟨sx, S, N, t, d, 12, rfl, hx, rfl, hg, by omega, ?_⟩
  walk_at "go"
  refine ite_r (fun h => ?_) (fun h => ?_)
  · walk_at "go"
    have e : termB S d = decide (partsD S 12 d ≤ 100) := by
      unfold termB; rw [h]; rfl
    rw [e] at hp; exact hp
  · walk_at "go"
    have e : termB S d = false := by
      unfold termB; rw [h]; rfl
    rw [e] at hp; exact hp
theorem Gd.thg {d : D} (h : Gd d) : Thg d := by cases h <;> trivial
theorem addB_len {S N : List Str} {l : List D} (h : ¬ (l.length : Int) ∈ [(2 : Int), 3]) : addB S N (.tup l) = false := by
  match l with
  | [] => rfl
  | [x] => unfold addB; split <;> simp_all
  | [x, y] => exact absurd (by simp) h
  | [x, y, z] => exact absurd (by simp) h
  | x :: y :: z :: u :: r => unfold addB; split <;> simp_all
theorem add3 {S N : List Str} {w : Str} {i : Int} {z : D} (h : ¬ w = "num") : addB S N (.tup [.str w, .int i, z]) = (decide (w = "size") && termB S z) := by
  show (if w = "num" then _ else decide (w = "size") && termB S z) = _
  rw [if_neg h]
theorem whole_int {d : D} (h : wholeD none none d = true) : ∃ i, d = .int i := by
  cases d <;> first | exact ⟨_, rfl⟩ | (simp [wholeD] at h)
theorem vc_is_addend (a : Ad) : ∀ ds M P EX, sp_is_addend a ds M P EX → t_is_addend a (startA N_is_addend ds) M (retK P EX) := by
  intro ds M P EX ⟨sx, S, N, t, d, hd, hx, hM, hg, hp⟩
  subst hd hM
  unfold t_is_addend
  show (aSeq _ _) [some (.obj a.Talk (talkF sx N t)), some d] _ _
  cases hg with
  | non => walk_at "go"; exact hp
  | bl b => walk_at "go"; exact hp
  | int i => walk_at "go"; exact hp
  | str l => walk_at "go"; exact hp
  | lst l => walk_at "go"; exact hp
  | dic l => walk_at "go"; exact hp
  | @tup l hl hgs =>
    walk_at "go"
    refine in_ints (L := [2, 3]) .tup ?_
    walk_at "go"
    refine ite_r (fun h => ?_) (fun h => ?_)
    · walk_at "go"
      rw [addB_len (by simpa using h)] at hp
      exact hp
    · have h' : (l.length : Int) ∈ [(2 : Int), 3] := by simp at h ⊢; omega
      obtain ⟨x, y, r, rfl⟩ : ∃ x y r, l = x :: y :: r := by
        match l, h' with
        | [], h => simp at h
        | [x], h => simp at h
        | x :: y :: r, _ => exact ⟨x, y, r, rfl⟩
      have gx := hgs x List.mem_cons_self
      have gy := hgs y (List.mem_cons_of_mem _ List.mem_cons_self)
      walk_at "go"
      refine IxA.seq .tup at0 ?_
      have bad : (∀ w, x ≠ .str w) → addB S N (.tup (x :: y :: r)) = false := fun hw => by
        rcases r with _ | ⟨z, _ | ⟨u, r⟩⟩ <;> cases x <;> first | rfl | exact absurd rfl (hw _)
      cases gx with
      | str w =>
        walk_at "go"
        refine IxA.seq .tup at1 ?_
        walk_at "go"
        refine cm0 ⟨y, none, none, rfl, rfl, gy.thg, ?_⟩
        walk_at "go"
        refine ite_r (fun h2 => ?_) (fun h2 => ?_)
        · walk_at "go"
          have e : addB S N (.tup (.str w :: y :: r)) = false := by
            have h3 : wholeD none none y = false := by simpa using h2
            rcases r with _ | ⟨z, _ | ⟨u, r⟩⟩ <;> cases y <;> first | rfl | (simp [wholeD] at h3)
          rw [e] at hp; exact hp
        · obtain ⟨i, rfl⟩ := whole_int (by simpa using h2)
          walk_at "go"
          refine ite_r (fun h3 => ?_) (fun h3 => ?_)
          · obtain rfl : r = [] := by
              simp at h3
              exact List.length_eq_zero_iff.mp (by omega)
            walk_at "go"
            exact hp
          · obtain ⟨z, rfl⟩ : ∃ z, r = [z] := by
              simp at h' h3
              have : r.length = 1 := by omega
              match r, this with
              | [z], _ => exact ⟨z, rfl⟩
            have gz := hgs z (by simp)
            walk_at "go"
            refine ite_r (fun h4 => ?_) (fun h4 => ?_)
            · have h5 : w = "num" := by simpa using h4
              subst h5
              walk_at "go"
              cases gz with
              | str s =>
                walk_at "go"
                refine cm0 ⟨sx, N, t, rfl, rfl, ?_⟩
                refine in_strs .tup ?_
                walk_at "go"
                exact ⟨_, Less.refl, by simpa [addB] using hp⟩
              | non => walk_at "go"; simpa [addB] using hp
              | bl b => walk_at "go"; simpa [addB] using hp
              | int i => walk_at "go"; simpa [addB] using hp
              | lst l => walk_at "go"; simpa [addB] using hp
              | dic l => walk_at "go"; simpa [addB] using hp
              | tup => walk_at "go"; simpa [addB] using hp
            · have h5 : ¬ w = "num" := by simpa using h4
              walk_at "go"
              refine ite_r (fun h6 => ?_) (fun h6 => ?_)
              · walk_at "go"
                refine cm0 ⟨sx, S, N, t, z, rfl, hx, rfl, gz, ?_⟩
                have h7 : w = "size" := by simpa using h6
                have e : addB S N (.tup [.str w, .int i, z]) = termB S z := by
                  rw [add3 h5, decide_eq_true h7]; rfl
                rw [e] at hp
                walk_at "go"
                exact ⟨_, Less.refl, hp⟩
              · walk_at "go"
                have h7 : ¬ w = "size" := by simpa using h6
                have e : addB S N (.tup [.str w, .int i, z]) = false := by
                  simp [addB, h5, h7]
                rw [e] at hp; simpa using hp
      | non => walk_at "go"; rw [bad (fun w h => by cases h)] at hp; exact hp
      | bl b => walk_at "go"; rw [bad (fun w h => by cases h)] at hp; exact hp
      | int i => walk_at "go"; rw [bad (fun w h => by cases h)] at hp; exact hp
      | lst l => walk_at "go"; rw [bad (fun w h => by cases h)] at hp; exact hp
      | dic l => walk_at "go"; rw [bad (fun w h => by cases h)] at hp; exact hp
      | tup => walk_at "go"; rw [bad (fun w h => by cases h)] at hp; exact hp
theorem vc_is_sum (a : Ad) : ∀ ds M P EX, sp_is_sum a ds M P EX → t_is_sum a (startA N_is_sum ds) M (retK P EX) := by
  intro ds M P EX ⟨sx, S, N, t, d, hd, hx, hM, hg, hp⟩
  subst hd hM
  unfold t_is_sum
  show (aSeq _ _) [some (.obj a.Talk (talkF sx N t)), some d, none] _ _
  cases hg with
  | non => walk_at "go"; exact hp
  | bl b => walk_at "go"; exact hp
  | int i => walk_at "go"; exact hp
  | str l => walk_at "go"; exact hp
  | lst l => walk_at "go"; exact hp
  | dic l => walk_at "go"; exact hp
  | @tup l hl hgs =>
    walk_at "go"
    refine ite_r (fun h => ?_) (fun h => ?_)
    · walk_at "go"
      have e : sumB S N (.tup l) = false := by
        have : decide (l.length ≤ 12) = false := by simp at h; simp; omega
        simp [sumB, this]
      rw [e] at hp; exact hp
    · have h12 : decide (l.length ≤ 12) = true := by simp at h; simp; omega
      walk_at "go"
      refine LcA.pure ((l.map (addB S N)).map D.bl) (by simp) (fun i d hd => ?_) ?_
      · walk_at "go"
        refine cm0 ⟨sx, S, N, t, d, rfl, hx, rfl, hgs d (List.mem_of_getElem? hd), ?_⟩
        refine lc_post (by simp; omega) (by rw [List.getElem?_map, List.getElem?_map, hd]; rfl)
      · walk_at "go"
        refine AllA.lst .fr ?_
        walk_at "go"
        have e : sumB S N (.tup l) = (l.map (addB S N)).all _root_.id := by simp [sumB, h12, List.all_map, Function.comp_def]
        rw [e] at hp; exact hp
theorem plain2 {S N : List Str} {w : Str} {x y : D} : plainB S N w [x, y] = (if w = "within" ∨ w = "same" then termB S x && termB S y else if w = "parts" then wholeD (some 2) none x && sumB S N y else if w = "atmost" ∨ w = "equal" then sumB S N x && sumB S N y else false) := rfl
theorem vc_is_plain (a : Ad) : ∀ ds M P EX, sp_is_plain a ds M P EX → t_is_plain a (startA N_is_plain ds) M (retK P EX) := by
  intro ds M P EX ⟨sx, S, N, t, w, l, hd, hx, hM, hg, hl, hp⟩
  subst hd hM
  unfold t_is_plain
  show (aSeq _ _) [some (.obj a.Talk (talkF sx N t)), some (.str w), some (.lst l), none, none] _ _
  walk_at "go"
  refine ite_r (fun h => ?_) (fun h => ?_)
  · walk_at "go"
    have e : plainB S N w l = false := by
      match l with
      | [] => rfl
      | [x] => rfl
      | [x, y] => simp at h
      | x :: y :: z :: r => rfl
    rw [e] at hp; exact hp
  · obtain ⟨x, y, rfl⟩ : ∃ x y, l = [x, y] := by
      have : l.length = 2 := by simp at h; omega
      match l, this with
      | [x, y], _ => exact ⟨x, y, rfl⟩
    have gx := hg x (by simp)
    have gy := hg y (by simp)
    walk_at "go"
    refine gLstA_r rfl ?_
    walk_at "go"
    refine ite_r (fun h1 => ?_) (fun h1 => ?_)
    · have e1 : w = "within" := by simpa using h1
      walk_at "go"
      refine cm0 ⟨sx, S, N, t, x, rfl, hx, rfl, gx, ?_⟩
      have e : plainB S N w [x, y] = (termB S x && termB S y) := by simp [plainB, e1]
      rw [e] at hp
      walk_at "go"
      refine ite_r (fun h2 => ?_) (fun h2 => ?_)
      · walk_at "go"
        refine cm0 ⟨sx, S, N, t, y, rfl, hx, rfl, gy, ?_⟩
        walk_at "go"
        rw [h2] at hp
        exact ⟨_, Less.refl, hp⟩
      · walk_at "go"
        rw [h2] at hp
        exact hp
    · walk_at "go"
      refine ite_r (fun h2 => ?_) (fun h2 => ?_)
      · have e1 : w = "same" := by simpa using h2
        walk_at "go"
        refine cm0 ⟨sx, S, N, t, x, rfl, hx, rfl, gx, ?_⟩
        have e : plainB S N w [x, y] = (termB S x && termB S y) := by simp [plainB, e1]
        rw [e] at hp
        walk_at "go"
        refine ite_r (fun h2 => ?_) (fun h2 => ?_)
        · walk_at "go"
          refine cm0 ⟨sx, S, N, t, y, rfl, hx, rfl, gy, ?_⟩
          walk_at "go"
          rw [h2] at hp
          exact ⟨_, Less.refl, hp⟩
        · walk_at "go"
          rw [h2] at hp
          exact hp
      · have n1 : ¬ w = "within" := by simpa using h1
        have n2 : ¬ w = "same" := by simpa using h2
        have n12 : ¬ (w = "within" ∨ w = "same") := fun z => z.elim n1 n2
        walk_at "go"
        refine ite_r (fun h3 => ?_) (fun h3 => ?_)
        · have e1 : w = "parts" := by simpa using h3
          have e : plainB S N w [x, y] = (wholeD (some 2) none x && sumB S N y) := by
            rw [plain2, if_neg n12, if_pos e1]
          rw [e] at hp
          walk_at "go"
          refine cm0 ⟨x, some 2, none, rfl, rfl, gx.thg, ?_⟩
          walk_at "go"
          refine ite_r (fun h2 => ?_) (fun h2 => ?_)
          · walk_at "go"
            refine cm0 ⟨sx, S, N, t, y, rfl, hx, rfl, gy, ?_⟩
            walk_at "go"
            rw [h2] at hp
            exact ⟨_, Less.refl, hp⟩
          · walk_at "go"
            rw [h2] at hp
            exact hp
        · have n3 : ¬ w = "parts" := by simpa using h3
          walk_at "go"
          refine ite_r (fun h4 => ?_) (fun h4 => ?_)
          · have e1 : w = "atmost" := by simpa using h4
            have e : plainB S N w [x, y] = (sumB S N x && sumB S N y) := by
              rw [plain2, if_neg n12, if_neg n3, if_pos (Or.inl e1)]
            rw [e] at hp
            walk_at "go"
            refine cm0 ⟨sx, S, N, t, x, rfl, hx, rfl, gx, ?_⟩
            walk_at "go"
            refine ite_r (fun h2 => ?_) (fun h2 => ?_)
            · walk_at "go"
              refine cm0 ⟨sx, S, N, t, y, rfl, hx, rfl, gy, ?_⟩
              walk_at "go"
              rw [h2] at hp
              exact ⟨_, Less.refl, hp⟩
            · walk_at "go"
              rw [h2] at hp
              exact hp
          · have n4 : ¬ w = "atmost" := by simpa using h4
            walk_at "go"
            refine ite_r (fun h5 => ?_) (fun h5 => ?_)
            · have e1 : w = "equal" := by simpa using h5
              have e : plainB S N w [x, y] = (sumB S N x && sumB S N y) := by
                rw [plain2, if_neg n12, if_neg n3, if_pos (Or.inr e1)]
              rw [e] at hp
              walk_at "go"
              refine cm0 ⟨sx, S, N, t, x, rfl, hx, rfl, gx, ?_⟩
              walk_at "go"
              refine ite_r (fun h2 => ?_) (fun h2 => ?_)
              · walk_at "go"
                refine cm0 ⟨sx, S, N, t, y, rfl, hx, rfl, gy, ?_⟩
                walk_at "go"
                rw [h2] at hp
                exact ⟨_, Less.refl, hp⟩
              · walk_at "go"
                rw [h2] at hp
                exact hp
            · have n5 : ¬ w = "equal" := by simpa using h5
              have n45 : ¬ (w = "atmost" ∨ w = "equal") := fun z => z.elim n4 n5
              have e : plainB S N w [x, y] = false := by
                rw [plain2, if_neg n12, if_neg n3, if_neg n45]
              rw [e] at hp
              walk_at "go"
              exact hp
theorem vc_is_saying (a : Ad) : ∀ ds M P EX, sp_is_saying a ds M P EX → t_is_saying a (startA N_is_saying ds) M (retK P EX) := by
  intro ds M P EX ⟨sx, S, N, t, d, hd, hx, hM, hg, hp⟩
  subst hd hM
  unfold t_is_saying
  show (aRet _) [some (.obj a.Talk (talkF sx N t)), some d] _ _
  walk_at "go"
  refine cm0 ⟨sx, S, N, t, d, 6, rfl, hx, rfl, hg, by omega, ?_⟩
  walk_at "go"
  refine ite_r (fun h => ?_) (fun h => ?_)
  · walk_at "go"
    have e : sayB S N d = decide (wordsD S N 6 d ≤ 24) := by
      unfold sayB; rw [h]; rfl
    rw [e] at hp; exact hp
  · walk_at "go"
    have e : sayB S N d = false := by
      unfold sayB; rw [h]; rfl
    rw [e] at hp; exact hp
theorem vc_words_in (n : Nat) (a : Ad) : ∀ ds M P EX, sp_words_in (n + 1) a ds M P EX → t_words_in n a (startA N_words_in ds) M (retK P EX) := by
  intro ds M P EX ⟨sx, S, N, t, d, left, hd, hx, hM, hg, hn, hp⟩
  subst hd hM
  unfold t_words_in
  show (aSeq _ _) [some (.obj a.Talk (talkF sx N t)), some d, some (.int left), none, none, none, none, none] _ _
  walk_at "go"
  refine ite_r (fun h => ?_) (fun h => ?_)
  · walk_at "go"
    have h0 : left = 0 := by simp at h; omega
    subst h0
    simpa [wordsD] using hp
  obtain ⟨m, rfl⟩ : ∃ m, left = m + 1 := ⟨left - 1, by simp at h; omega⟩
  cases hg with
  | str s => walk_at "go"; simpa [wordsD] using hp
  | non => walk_at "go"; simpa [wordsD] using hp
  | bl b => walk_at "go"; simpa [wordsD] using hp
  | int i => walk_at "go"; simpa [wordsD] using hp
  | lst l => walk_at "go"; simpa [wordsD] using hp
  | dic l => walk_at "go"; simpa [wordsD] using hp
  | @tup l hl hgs =>
    walk_at "go"
    refine ite_r (fun h => ?_) (fun h => ?_)
    · walk_at "go"
      have e : wordsD S N (m + 1) (.tup l) = 0 := by
        match l with
        | [] => rfl
        | [x] => cases x <;> rfl
        | x :: y :: r => simp at h; omega
      rw [e] at hp; exact hp
    obtain ⟨x, p, r, rfl⟩ : ∃ x p r, l = x :: p :: r := by
      match l, h with
      | [], h => simp at h
      | [x], h => simp at h
      | x :: p :: r, _ => exact ⟨x, p, r, rfl⟩
    walk_at "go"
    have hr : (p :: r).length ≤ 10000 := by simp at hl ⊢; omega
    refine star21 hr ?_
    walk_at "go"
    have hgx := hgs x List.mem_cons_self
    have hgr : ∀ d ∈ p :: r, Gd d := fun d hd => hgs d (List.mem_cons_of_mem _ hd)
    cases hgx with
    | str w =>
      walk_at "go"
      refine ⟨w, rfl, rfl, ?_⟩
      rw [tabJ]
      walk_at "go"
      cases hk : tJ.lookup w with
      | none =>
        refine ⟨fun _ => ?_, fun z => absurd z (by simp)⟩
        walk_at "go"
        refine cm0 ⟨sx, S, N, t, w, p :: r, rfl, hx, rfl, hgr, hr, ?_⟩
        walk_at "go"
        refine IntA.bl ?_
        walk_at "go"
        have e : wordsD S N (m + 1) (.tup (.str w :: p :: r)) = if plainB S N w (p :: r) = true then 1 else 0 := by
          rw [wordsD, hk]
        rw [e] at hp
        exact hp
      | some k =>
        refine ⟨fun z => absurd z (by simp), fun _ => ?_⟩
        walk_at "go"
        refine ⟨w, k, rfl, rfl, hk, ?_⟩
        walk_at "go"
        refine ite_r (fun h2 => ?_) (fun h2 => ?_)
        · walk_at "go"
          have h3 : ¬ ((p :: r).length : Int) = k := by simpa using h2
          have e : wordsD S N (m + 1) (.tup (.str w :: p :: r)) = 0 := by
            rw [wordsD, hk]
            exact if_neg h3
          rw [e] at hp; exact hp
        have h3 : ((p :: r).length : Int) = k := by simpa using h2
        walk_at "go"
        have ez : (0 : Int) ∈ (p :: r).map (wordsD S N m) → wordsD S N (m + 1) (.tup (.str w :: p :: r)) = 0 := fun z => by
          rw [wordsD, hk]
          show (if ((p :: r).length : Int) = k then _ else _) = _
          rw [if_pos h3, if_pos z]
        have es : ¬ (0 : Int) ∈ (p :: r).map (wordsD S N m) → wordsD S N (m + 1) (.tup (.str w :: p :: r)) = 1 + ((p :: r).map (wordsD S N m)).sum := fun z => by
          rw [wordsD, hk]
          show (if ((p :: r).length : Int) = k then _ else _) = _
          rw [if_pos h3, if_neg z]
        generalize hL : p :: r = L at *
        refine ⟨fun i ρ' M' => ∃ x4 x6 : Option D, ρ' = [some (.obj a.Talk (talkF sx N t)), some (.tup (.str w :: L)), some (.int (m + 1 : Nat)), some (.int (1 + ((L.take i).map (wordsD S N m)).sum)), x4, some (.str w), x6, some (.lst L)] ∧ M' = [] ∧ ¬ (0 : Int) ∈ (L.take i).map (wordsD S N m), ⟨none, none, by simp, rfl, by simp⟩, fun i d ρ' M' hx2 hj => ?_, fun ρ' M' hj => ?_⟩
        · obtain ⟨x4, x6, rfl, rfl, h0⟩ := hj
          walk_at "go"
          refine cm0 ⟨sx, S, N, t, d, m, by rw [show ((m + 1 : Nat) : Int) - 1 = (m : Int) by omega]; rfl, hx, rfl, hgr d (List.mem_of_getElem? hx2), by omega, ?_⟩
          obtain ⟨hi, rfl⟩ := List.getElem?_eq_some_iff.mp hx2
          walk_at "go"
          refine ite_r (fun h4 => ?_) (fun h4 => ?_)
          · walk_at "go"
            have h5 : wordsD S N m L[i] = 0 := by simpa using h4
            rw [ez (List.mem_map.mpr ⟨L[i], List.getElem_mem hi, h5⟩)] at hp
            exact hp
          · have h5 : ¬ wordsD S N m L[i] = 0 := by simpa using h4
            walk_at "go"
            refine aAug_r (x := .int (1 + ((L.take i).map (wordsD S N m)).sum)) rfl ?_
            walk_at "go"
            refine IAddA.int ?_
            walk_at "go"
            have e1 : L.take (i + 1) = L.take i ++ [L[i]] := List.take_succ_eq_append_getElem hi
            refine ⟨some L[i], some (.int (wordsD S N m L[i])), ?_, rfl, ?_⟩
            · rw [e1, List.map_append, List.sum_append]
              simp [sS, Int.add_assoc]
            · rw [e1, List.map_append, List.mem_append]
              intro z
              rcases z with z | z
              · exact h0 z
              · simp at z; exact h5 z.symm
        · obtain ⟨x4, x6, rfl, rfl, h0⟩ := hj
          rw [List.take_length] at h0
          rw [es h0] at hp
          walk_at "go"
          rw [List.take_length]
          exact hp
    | non => walk_at "go"; simpa [wordsD] using hp
    | bl b => walk_at "go"; simpa [wordsD] using hp
    | int i => walk_at "go"; simpa [wordsD] using hp
    | lst l => walk_at "go"; simpa [wordsD] using hp
    | dic l => walk_at "go"; simpa [wordsD] using hp
    | tup => walk_at "go"; simpa [wordsD] using hp
theorem cnB_inv {n : Nat} {d : D} (h : cnB (n + 1) d = true) : (∃ x, d = .tup [.str "not", x] ∧ cnB n x = true) ∨ (∃ w x y, d = .tup [.str w, x, y] ∧ (w = "both" ∨ w = "either") ∧ cnB n x = true ∧ cnB n y = true) ∨ (∃ w x y, d = .tup [.str w, x, y] ∧ ¬ w = "not" ∧ ¬ w = "both" ∧ ¬ w = "either") := by
  unfold cnB at h
  split at h
  · cases h
  · rename_i m w x e
    simp only [Bool.and_eq_true, beq_iff_eq] at h
    cases e; exact Or.inl ⟨x, by rw [h.1], h.2⟩
  · rename_i m w x y e
    cases e
    split at h
    · rename_i hw
      simp only [Bool.and_eq_true] at h
      exact Or.inr (Or.inl ⟨w, x, y, rfl, hw, h.1, h.2⟩)
    · rename_i hw
      simp only [bne_iff_ne, ne_eq] at h
      exact Or.inr (Or.inr ⟨w, x, y, rfl, h, fun z => hw (Or.inl z), fun z => hw (Or.inr z)⟩)
  · cases h
theorem cntD_not {n : Nat} {x : D} : cntD (n + 1) (.tup [.str "not", x]) = ((cntD n x).2, (cntD n x).1) := by
  show (if ("not" : Str) = "not" then _ else _) = _
  rw [if_pos rfl]
theorem cntD_both {n : Nat} {x y : D} : cntD (n + 1) (.tup [.str "both", x, y]) = ((cntD n x).1 * (cntD n y).1, (cntD n x).2 + (cntD n y).2) := by
  show (if ("both" : Str) = "both" then _ else _) = _
  rw [if_pos rfl]
theorem cntD_either {n : Nat} {x y : D} : cntD (n + 1) (.tup [.str "either", x, y]) = ((cntD n x).1 + (cntD n y).1, (cntD n x).2 * (cntD n y).2) := by
  show (if ("either" : Str) = "both" then _ else if ("either" : Str) = "either" then _ else _) = _
  rw [if_neg (by decide +kernel), if_pos rfl]
theorem cntD_leaf {n : Nat} {w : Str} {x y : D} (h1 : ¬ w = "both") (h2 : ¬ w = "either") : cntD (n + 1) (.tup [.str w, x, y]) = lfC w := by
  show (if w = "both" then _ else if w = "either" then _ else lfC w) = _
  rw [if_neg h1, if_neg h2]
theorem cnt_mono : ∀ {n m : Nat} {d : D}, cnB n d = true → n ≤ m → cntD m d = cntD n d
  | 0, _, _, h, _ => by simp [cnB] at h
  | n + 1, m, d, h, hm => by
    obtain ⟨m, rfl⟩ : ∃ k, m = k + 1 := ⟨m - 1, by omega⟩
    rcases cnB_inv h with ⟨x, rfl, hx⟩ | ⟨w, x, y, rfl, rfl | rfl, hx, hy⟩ | ⟨w, x, y, rfl, _, h1, h2⟩
    · rw [cntD_not, cntD_not, cnt_mono hx (by omega)]
    · rw [cntD_both, cntD_both, cnt_mono hx (by omega), cnt_mono hy (by omega)]
    · rw [cntD_either, cntD_either, cnt_mono hx (by omega), cnt_mono hy (by omega)]
    · rw [cntD_leaf h1 h2, cntD_leaf h1 h2]
theorem cnB_mono : ∀ {n m : Nat} {d : D}, cnB n d = true → n ≤ m → cnB m d = true
  | 0, _, _, h, _ => by simp [cnB] at h
  | n + 1, m, d, h, hm => by
    obtain ⟨m, rfl⟩ : ∃ k, m = k + 1 := ⟨m - 1, by omega⟩
    rcases cnB_inv h with ⟨x, rfl, hx⟩ | ⟨w, x, y, rfl, hw, hx, hy⟩ | ⟨w, x, y, rfl, h0, h1, h2⟩
    · have := cnB_mono hx (show n ≤ m by omega)
      simp [cnB, this]
    · have e1 := cnB_mono hx (show n ≤ m by omega)
      have e2 := cnB_mono hy (show n ≤ m by omega)
      simp [cnB, hw, e1, e2]
    · simp [cnB, h0, h1, h2]
theorem cnt_not {n : Nat} {x : D} (h : cnB n x = true) (hn : n ≤ 9) : cnt (.tup [.str "not", x]) = ((cnt x).2, (cnt x).1) := by
  unfold cnt
  rw [cntD_not, cnt_mono h (show n ≤ 10 by omega), cnt_mono h hn]
theorem cnt_both {n : Nat} {x y : D} (h : cnB n x = true) (h' : cnB n y = true) (hn : n ≤ 9) : cnt (.tup [.str "both", x, y]) = ((cnt x).1 * (cnt y).1, (cnt x).2 + (cnt y).2) := by
  unfold cnt
  rw [cntD_both, cnt_mono h (show n ≤ 10 by omega), cnt_mono h hn, cnt_mono h' (show n ≤ 10 by omega), cnt_mono h' hn]
theorem cnt_either {n : Nat} {x y : D} (h : cnB n x = true) (h' : cnB n y = true) (hn : n ≤ 9) : cnt (.tup [.str "either", x, y]) = ((cnt x).1 + (cnt y).1, (cnt x).2 * (cnt y).2) := by
  unfold cnt
  rw [cntD_either, cnt_mono h (show n ≤ 10 by omega), cnt_mono h hn, cnt_mono h' (show n ≤ 10 by omega), cnt_mono h' hn]
theorem cnt_leaf {w : Str} {x y : D} (h1 : ¬ w = "both") (h2 : ¬ w = "either") : cnt (.tup [.str w, x, y]) = lfC w := cntD_leaf h1 h2
theorem lfC_bd {w : Str} : (lfC w).1 = 1 ∧ 1 ≤ (lfC w).2 ∧ (lfC w).2 ≤ 2 := by
  unfold lfC
  refine ⟨rfl, ?_⟩
  by_cases h : w = "equal"
  · rw [if_pos h]; decide
  · rw [if_neg h]; decide
theorem mul_bd {x y b : Int} (hx : 1 ≤ x) (hx2 : x ≤ b) (hy : 1 ≤ y) (hy2 : y ≤ b) : 1 ≤ x * y ∧ x * y ≤ b * b := by
  constructor
  · have := Int.mul_le_mul hx hy (by omega) (by omega)
    omega
  · exact Int.mul_le_mul hx2 hy2 (by omega) (by omega)
theorem cnt_bd : ∀ {n : Nat} {d : D}, cnB (n + 1) d = true → (1 ≤ (cntD (n + 1) d).1 ∧ (cntD (n + 1) d).1 ≤ 2 ^ (2 ^ n)) ∧ (1 ≤ (cntD (n + 1) d).2 ∧ (cntD (n + 1) d).2 ≤ 2 ^ (2 ^ n))
  | n, d, h => by
    have b2 : (2 : Int) ≤ 2 ^ (2 ^ n) := by
      have h1 : (2 : Nat) ^ 1 ≤ 2 ^ (2 ^ n) := Nat.pow_le_pow_right (by decide) (Nat.one_le_two_pow)
      have h2 : ((2 : Nat) ^ (2 ^ n) : Nat) = ((2 : Int) ^ (2 ^ n)) := by push_cast; rfl
      omega
    have leaf : ∀ w : Str, (1 ≤ (lfC w).1 ∧ (lfC w).1 ≤ 2 ^ (2 ^ n)) ∧ (1 ≤ (lfC w).2 ∧ (lfC w).2 ≤ 2 ^ (2 ^ n)) := fun w => by
      obtain ⟨h1, h2, h3⟩ := lfC_bd (w := w)
      refine ⟨⟨by omega, by omega⟩, by omega, by omega⟩
    rcases cnB_inv h with ⟨x, rfl, hx⟩ | ⟨w, x, y, rfl, hw, hx, hy⟩ | ⟨w, x, y, rfl, _, h1, h2⟩
    · cases n with
      | zero => simp [cnB] at hx
      | succ n =>
        obtain ⟨⟨a1, a2⟩, a3, a4⟩ := cnt_bd hx
        have e : (2 : Int) ^ (2 ^ (n + 1)) = 2 ^ (2 ^ n) * 2 ^ (2 ^ n) := by rw [← Int.pow_add]; congr 1; omega
        have g1 := mul_bd a1 a2 (show (1 : Int) ≤ 1 by omega) (show (1 : Int) ≤ 2 ^ (2 ^ n) by omega)
        have g2 := mul_bd a3 a4 (show (1 : Int) ≤ 1 by omega) (show (1 : Int) ≤ 2 ^ (2 ^ n) by omega)
        rw [cntD_not, e]
        simp only [Int.mul_one] at g1 g2
        exact ⟨g2, g1⟩
    · cases n with
      | zero => simp [cnB] at hx
      | succ n =>
        obtain ⟨⟨a1, a2⟩, a3, a4⟩ := cnt_bd hx
        obtain ⟨⟨c1, c2⟩, c3, c4⟩ := cnt_bd hy
        have e : (2 : Int) ^ (2 ^ (n + 1)) = 2 ^ (2 ^ n) * 2 ^ (2 ^ n) := by rw [← Int.pow_add]; congr 1; omega
        have b3 : (2 : Int) ≤ 2 ^ (2 ^ n) := by
          have h1 : (2 : Nat) ^ 1 ≤ 2 ^ (2 ^ n) := Nat.pow_le_pow_right (by decide) (Nat.one_le_two_pow)
          have h2 : ((2 : Nat) ^ (2 ^ n) : Nat) = ((2 : Int) ^ (2 ^ n)) := by push_cast; rfl
          omega
        have dbl : (2 : Int) * 2 ^ (2 ^ n) ≤ 2 ^ (2 ^ n) * 2 ^ (2 ^ n) := Int.mul_le_mul b3 (Int.le_refl _) (by omega) (by omega)
        rcases hw with rfl | rfl
        · rw [cntD_both, e]
          exact ⟨mul_bd a1 a2 c1 c2, by dsimp only; omega, by dsimp only; omega⟩
        · rw [cntD_either, e]
          exact ⟨⟨by dsimp only; omega, by dsimp only; omega⟩, mul_bd a3 a4 c3 c4⟩
    · rw [cntD_leaf h1 h2]
      exact leaf w
theorem cnt_small {n : Nat} {d : D} (h : cnB n d = true) (hn : n ≤ 6) : (1 ≤ (cnt d).1 ∧ (cnt d).1 ≤ 2 ^ 32) ∧ (1 ≤ (cnt d).2 ∧ (cnt d).2 ≤ 2 ^ 32) := by
  have h6 := cnB_mono h hn
  have := cnt_bd h6
  unfold cnt
  rw [cnt_mono h6 (show 6 ≤ 10 by omega)]
  exact this
theorem in_two {w x y : Str} {M : Mem} {P : AK} (q : P (.bl (decide (w = x ∨ w = y))) M) : InA (.str w) (.tup [.str x, .str y]) M P := by
  refine in_strs (L := [x, y]) .tup ?_
  have e : decide (w ∈ [x, y]) = decide (w = x ∨ w = y) := by simp
  rw [e]; exact q
theorem vc_counts_of (n : Nat) (a : Ad) : ∀ ds M P EX, sp_counts_of (n + 1) a ds M P EX → t_counts_of n a (startA N_counts_of ds) M (retK P EX) := by
  intro ds M P EX ⟨d, hd, hM, hn, hc, hp⟩
  subst hd hM
  unfold t_counts_of
  rcases cnB_inv hc with ⟨x, rfl, hx⟩ | ⟨w, x, y, rfl, hw, hx, hy⟩ | ⟨w, x, y, rfl, h0, h1, h2⟩
  · show (aSeq _ _) [some (.tup [.str "not", x]), none, none, none, none, none, none, none, none] _ _
    rw [cnt_not hx (by omega)] at hp
    walk_at "go"
    refine star21 (by simp) ?_
    walk_at "go"
    refine ite_r (fun h => ?_) (fun h => absurd h (by simp))
    walk_at "go"
    refine cm0 ⟨x, rfl, rfl, by omega, hx, ?_⟩
    refine gTupA_r rfl ?_
    walk_at "go"
    exact ⟨_, Less.refl, hp⟩
  · show (aSeq _ _) [some (.tup [.str w, x, y]), none, none, none, none, none, none, none, none] _ _
    have nn : ¬ w = "not" := by rcases hw with rfl | rfl <;> decide +kernel
    walk_at "go"
    refine star21 (by simp) ?_
    walk_at "go"
    refine ite_r (fun h => absurd (by simpa using h) nn) (fun h => ?_)
    walk_at "go"
    refine in_two ?_
    walk_at "go"
    refine ite_r (fun h => absurd hw (by simpa using h)) (fun h => ?_)
    walk_at "go"
    refine cm0 ⟨x, rfl, rfl, by omega, hx, ?_⟩
    refine gTupA_r rfl ?_
    walk_at "go"
    refine cm0 ⟨y, rfl, rfl, by omega, hy, ?_⟩
    refine gTupA_r rfl ?_
    have sx := cnt_small hx (by omega)
    have sy := cnt_small hy (by omega)
    walk_at "go"
    refine ite_r (fun h => ?_) (fun h => ?_)
    · obtain rfl : w = "both" := by simpa using h
      rw [cnt_both hx hy (by omega)] at hp
      walk_at "go"
      exact hp
    · obtain rfl : w = "either" := by
        have : ¬ w = "both" := by simpa using h
        exact hw.resolve_left this
      rw [cnt_either hx hy (by omega)] at hp
      walk_at "go"
      exact hp
  · show (aSeq _ _) [some (.tup [.str w, x, y]), none, none, none, none, none, none, none, none] _ _
    rw [cnt_leaf h1 h2] at hp
    walk_at "go"
    refine star21 (by simp) ?_
    walk_at "go"
    refine ite_r (fun h => absurd (by simpa using h) h0) (fun h => ?_)
    walk_at "go"
    refine in_two ?_
    walk_at "go"
    refine ite_r (fun h => ?_) (fun h => absurd h (by simp [h1, h2]))
    walk_at "go"
    unfold lfC at hp
    refine ite_r (fun h => ?_) (fun h => ?_)
    · rw [if_pos (show w = "equal" by simpa using h)] at hp
      walk_at "go"
      exact hp
    · rw [if_neg (show ¬ w = "equal" by simpa using h)] at hp
      walk_at "go"
      exact hp
theorem cntL_app {l r : List D} : cntL (l ++ r) = (r.map fun d => (cnt d).1).foldl (· * ·) (cntL l) := by
  unfold cntL
  rw [List.map_append, List.foldl_append]
theorem cntL_snoc {l : List D} {i : Nat} (hi : i < l.length) : cntL (l.take (i + 1)) = cntL (l.take i) * (cnt l[i]).1 := by
  rw [List.take_succ_eq_append_getElem hi, cntL_app]
  rfl
theorem iSeqA_r {te : AE} {ρ : Rho} {M : Mem} {P : List D → (Mem → Prop) → Mem → Prop} {EX : XKA} (h : te ρ M (fun d M1 => (∃ l, (d = .tup l ∨ d = .lst l ∨ d = .lsk l) ∧ P l (fun _ => True) M1) ∨ ∃ a l, d = .ref a ∧ (a, MO.lst l) ∈ M1 ∧ P l (fun M' => (a, MO.lst l) ∈ M') M1) EX) : iSeqA te ρ M P EX := h
theorem vc_cases_many (a : Ad) : ∀ ds M P EX, sp_cases_many a ds M P EX → t_cases_many a (startA N_cases_many ds) M (retK P EX) := by
  intro ds M P EX ⟨l, hd, hM, hl, hc, hp⟩
  subst hd hM
  unfold t_cases_many
  show (aSeq _ _) [some (.tup l), some (.bl false), none, none, none, none, none] _ _
  walk_at "go"
  refine iSeqA_r ?_
  walk_at "go"
  refine Or.inl ⟨l, Or.inl rfl, ?_⟩
  refine ⟨fun i ρ' M' => ∃ (x2 x5 x6 : Option D) (ns : Int), ρ' = [some (.tup l), some (.bl false), x2, some (.int (cntL (l.take i))), some (.int ns), x5, x6] ∧ M' = [], ⟨none, none, none, 0, by simp [cntL], rfl⟩, fun i ρ' M' _ => trivial, fun i d ρ' M' hx hj => ?_, fun ρ' M' hj => ?_⟩
  · obtain ⟨x2, x5, x6, ns, rfl, rfl⟩ := hj
    walk_at "go"
    obtain ⟨hi, rfl⟩ := List.getElem?_eq_some_iff.mp hx
    have hcd := hc _ (List.getElem_mem hi)
    have sx := cnt_small hcd (by omega)
    refine cm0 ⟨l[i], rfl, rfl, by omega, hcd, ?_⟩
    refine gTupA_r rfl ?_
    walk_at "go"
    rw [cntL_snoc hi]
    exact ⟨_, _, _, _, rfl, rfl⟩
  · obtain ⟨x2, x5, x6, ns, rfl, rfl⟩ := hj
    rw [List.take_length]
    walk_at "go"
    exact hp
section
variable {T : D} {d p l d' : Addr} {n n' : Int}
theorem lkTalk : (stF T d n p l).lookup ("spoken_in" : Str) = some T := by unfold stF; rw [List.lookup_cons_self]
theorem lkSaid : (stF T d n p l).lookup ("said" : Str) = some (.ref d) := by
  unfold stF
  rw [List.lookup_cons, show (("said" : Str) == "spoken_in") = false by decide +kernel, List.lookup_cons_self]
theorem lkSpent : (stF T d n p l).lookup ("spent" : Str) = some (.int n) := by
  unfold stF
  rw [List.lookup_cons, show (("spent" : Str) == "spoken_in") = false by decide +kernel, List.lookup_cons, show (("spent" : Str) == "said") = false by decide +kernel, List.lookup_cons_self]
theorem lkPiles : (stF T d n p l).lookup ("piles" : Str) = some (.ref p) := by
  unfold stF
  rw [List.lookup_cons, show (("piles" : Str) == "spoken_in") = false by decide +kernel, List.lookup_cons, show (("piles" : Str) == "said") = false by decide +kernel, List.lookup_cons, show (("piles" : Str) == "spent") = false by decide +kernel, List.lookup_cons_self]
theorem lkLaid : (stF T d n p l).lookup ("laid" : Str) = some (.ref l) := by
  unfold stF
  rw [List.lookup_cons, show (("laid" : Str) == "spoken_in") = false by decide +kernel, List.lookup_cons, show (("laid" : Str) == "said") = false by decide +kernel, List.lookup_cons, show (("laid" : Str) == "spent") = false by decide +kernel, List.lookup_cons, show (("laid" : Str) == "piles") = false by decide +kernel, List.lookup_cons_self]
theorem lkMeth {m : Str} (h : (("spoken_in" : Str) == m || ("said" : Str) == m || ("spent" : Str) == m || ("piles" : Str) == m || ("laid" : Str) == m) = false) : (stF T d n p l).lookup m = none := by
  have hc : ∀ x : Str, (x == m) = false → (m == x) = false := fun x h => beq_eq_false_iff_ne.mpr fun e => (beq_eq_false_iff_ne.mp h) e.symm
  simp only [Bool.or_eq_false_iff] at h
  unfold stF
  rw [List.lookup_cons, hc _ h.1.1.1.1, List.lookup_cons, hc _ h.1.1.1.2, List.lookup_cons, hc _ h.1.1.2, List.lookup_cons, hc _ h.1.2, List.lookup_cons, hc _ h.2]
  rfl
theorem putSaid : putD "said" (.ref d') (stF T d n p l) = stF T d' n p l := by
  unfold stF
  rw [putD, if_neg (by decide +kernel), putD, if_pos rfl]
theorem putSpent : putD "spent" (.int n') (stF T d n p l) = stF T d n' p l := by
  unfold stF
  rw [putD, if_neg (by decide +kernel), putD, if_neg (by decide +kernel), putD, if_pos rfl]
theorem putPiles : putD "piles" (.ref d') (stF T d n p l) = stF T d n d' l := by
  unfold stF
  rw [putD, if_neg (by decide +kernel), putD, if_neg (by decide +kernel), putD, if_neg (by decide +kernel), putD, if_pos rfl]
theorem putLaid : putD "laid" (.ref d') (stF T d n p l) = stF T d n p d' := by
  unfold stF
  rw [putD, if_neg (by decide +kernel), putD, if_neg (by decide +kernel), putD, if_neg (by decide +kernel), putD, if_neg (by decide +kernel), putD, if_pos rfl]
end
theorem vc_Store_init (a : Ad) : ∀ ds M P EX, sp_Store_init a ds M P EX → t_Store_init a (startA N_Store_init ds) M (retK P EX) := by
  intro ds M P EX ⟨x, T, hd, hM, hp⟩
  subst hd hM
  unfold t_Store_init
  show (aSeq _ _) [some (.ref x), some T] _ _
  walk_at "go"
  refine ⟨x, [], [(x, .ins a.Store [("spoken_in", T)])], rfl, .here, by simp, ?_⟩
  walk_at "go"
  intro d hd
  walk_at "go"
  refine ⟨x, [("spoken_in", T)], [(x, .ins a.Store [("spoken_in", T), ("said", .ref d)]), (d, .dK [])], rfl, ?_, by simp, ?_⟩
  · have e : putD "said" (.ref d) [(("spoken_in" : Str), T)] = [(("spoken_in" : Str), T), ("said", .ref d)] := by rw [putD, if_neg (by decide +kernel)]; rfl
    rw [← e]; exact .here
  walk_at "go"
  refine ⟨x, [("spoken_in", T), ("said", .ref d)], [(x, .ins a.Store [("spoken_in", T), ("said", .ref d), ("spent", .int 0)]), (d, .dK [])], rfl, ?_, by simp, ?_⟩
  · have e : putD "spent" (.int 0) [(("spoken_in" : Str), T), ("said", .ref d)] = [(("spoken_in" : Str), T), ("said", .ref d), ("spent", .int 0)] := by
      rw [putD, if_neg (by decide +kernel), putD, if_neg (by decide +kernel)]; rfl
    rw [← e]; exact .here
  walk_at "go"
  intro p hp'
  walk_at "go"
  refine ⟨x, [("spoken_in", T), ("said", .ref d), ("spent", .int 0)], [(x, .ins a.Store [("spoken_in", T), ("said", .ref d), ("spent", .int 0), ("piles", .ref p)]), (d, .dK []), (p, .lst [])], rfl, ?_, by simp, ?_⟩
  · have e : putD "piles" (.ref p) [(("spoken_in" : Str), T), ("said", .ref d), ("spent", .int 0)] = [(("spoken_in" : Str), T), ("said", .ref d), ("spent", .int 0), ("piles", .ref p)] := by
      rw [putD, if_neg (by decide +kernel), putD, if_neg (by decide +kernel), putD, if_neg (by decide +kernel)]; rfl
    rw [← e]; exact .here
  walk_at "go"
  intro l hl
  walk_at "go"
  refine ⟨x, [("spoken_in", T), ("said", .ref d), ("spent", .int 0), ("piles", .ref p)], [(x, .ins a.Store (stF T d 0 p l)), (d, .dK []), (p, .lst []), (l, .lst [])], rfl, ?_, by simp, ?_⟩
  · have e : putD "laid" (.ref l) [(("spoken_in" : Str), T), ("said", .ref d), ("spent", .int 0), ("piles", .ref p)] = stF T d 0 p l := by
      rw [putD, if_neg (by decide +kernel), putD, if_neg (by decide +kernel), putD, if_neg (by decide +kernel), putD, if_neg (by decide +kernel)]; rfl
    rw [← e]; exact .here
  walk_at "go"
  exact ⟨_, Less.refl, hp _ ⟨d, p, l, [], rfl, List.Perm.refl _⟩⟩
theorem store_d {a : Ad} {T : D} {m : Mo} {s d p l : Addr} {rs : List Addr} {M : Mem} (h : M.Perm (stC a T m s d p l rs)) : M.Perm ((d, MO.dK (saidK m.said)) :: (s, MO.ins a.Store (stF T d m.next p l)) :: (p, MO.lst (rs.map D.ref)) :: (l, MO.lst m.log) :: pilM rs m.marks) :=
  perm_mc fun x => by have h1 := mc_perm h x; walk_at "pm"
theorem vc_Store_all_said (a : Ad) : ∀ ds M P EX, sp_Store_all_said a ds M P EX → t_Store_all_said a (startA N_Store_all_said ds) M (retK P EX) := by
  intro ds M P EX ⟨s, T, m, hd, ⟨d, p, l, rs, hr, hM⟩, hl, hp⟩
  subst hd
  unfold t_Store_all_said
  show (aRet _) [some (.ref s), none, none] _ _
  walk_at "go"
  refine ⟨d, saidK m.said, fun od ws => ?_⟩
  obtain ⟨M1, hp1, hM1⟩ := put_of (.lk od ws (saidK m.said)) (store_d hM)
  have hs : (s, MO.ins a.Store (stF T d m.next p l)) ∈ M1 := hM1.mem_iff.mpr (by simp)
  have hd1 : (d, MO.lk od ws (saidK m.said)) ∈ M1 := hM1.mem_iff.mpr (by simp)
  refine ⟨M1, hp1, ?_⟩
  walk_at "go"
  show aFld a.Store "said" (aVar 0) _ M1 _ _
  walk_at "go"
  refine fld_m hs lkSaid ?_
  refine ⟨d, od, ws, saidK m.said, rfl, hd1, ?_⟩
  refine ⟨fun i acc M' => M' = M1 ∧ acc = (m.said.map (·.2)).take i, ⟨rfl, rfl⟩, fun i acc M' h => by rw [h.1]; exact hd1, fun i y acc M' hx hj => ?_, fun acc M' hj => ?_⟩
  · obtain ⟨rfl, rfl⟩ := hj
    rw [List.getElem?_map] at hx
    unfold saidK at hx
    rw [List.getElem?_map] at hx
    cases hq : m.said[i]? with
    | none => rw [hq] at hx; cases hx
    | some q =>
      rw [hq] at hx; cases hx
      obtain ⟨hi, hqe⟩ := List.getElem?_eq_some_iff.mp hq
      refine gTupA_r rfl ?_
      walk_at "go"
      refine ⟨by rw [List.length_take]; simp; omega, rfl, ?_⟩
      rw [List.take_succ_eq_append_getElem (by simpa using hi)]
      simp [hqe]
  · obtain ⟨rfl, rfl⟩ := hj
    obtain ⟨M3, hp3, hM3⟩ := put_of (.dK (saidK m.said)) hM1
    walk_at "go"
    refine ⟨M3, hp3, ?_⟩
    have e : (m.said.map (·.2)).take (List.map (fun kv => D.tup [keyD kv.fst, kv.snd]) (saidK m.said)).length = m.said.map (·.2) := List.take_of_length_le (by simp [saidK])
    rw [e]
    walk_at "go"
    exact ⟨_, Less.refl, hp M3 ⟨d, p, l, rs, hr, perm_mc fun x => by have h1 := mc_perm hM3 x; walk_at "pm"⟩⟩
theorem putKD_new {kvs : List (Key × D)} {k : Key} {d : D} (h : ∀ q ∈ kvs, q.1 ≠ k) : putKD kvs k d = kvs ++ [(k, d)] := by
  unfold putKD
  rw [if_neg]
  intro z
  obtain ⟨q, h1, h2⟩ := List.any_eq_true.mp z
  exact h q h1 (of_decide_eq_true h2)
theorem put_said {l : List (Int × D)} {n : Int} {d : D} (h : ∀ q ∈ l, q.1 < n) : putKD (saidK l) (Sum.inl n) d = saidK (l ++ [(n, d)]) := by
  rw [putKD_new]
  · simp [saidK]
  · intro q hq e
    obtain ⟨p, hp, rfl⟩ := List.mem_map.mp hq
    have := h p hp
    have e2 : p.1 = n := Sum.inl.inj e
    omega
theorem store_s {a : Ad} {T : D} {m : Mo} {s d p l : Addr} {rs : List Addr} {M : Mem} (h : M.Perm (stC a T m s d p l rs)) : M.Perm ((s, MO.ins a.Store (stF T d m.next p l)) :: (d, MO.dK (saidK m.said)) :: (p, MO.lst (rs.map D.ref)) :: (l, MO.lst m.log) :: pilM rs m.marks) := h
theorem store_l {a : Ad} {T : D} {m : Mo} {s d p l : Addr} {rs : List Addr} {M : Mem} (h : M.Perm (stC a T m s d p l rs)) : M.Perm ((l, MO.lst m.log) :: (s, MO.ins a.Store (stF T d m.next p l)) :: (d, MO.dK (saidK m.said)) :: (p, MO.lst (rs.map D.ref)) :: pilM rs m.marks) :=
  perm_mc fun x => by have h1 := mc_perm h x; walk_at "pm"
theorem store_p {a : Ad} {T : D} {m : Mo} {s d p l : Addr} {rs : List Addr} {M : Mem} (h : M.Perm (stC a T m s d p l rs)) : M.Perm ((p, MO.lst (rs.map D.ref)) :: (s, MO.ins a.Store (stF T d m.next p l)) :: (d, MO.dK (saidK m.said)) :: (l, MO.lst m.log) :: pilM rs m.marks) :=
  perm_mc fun x => by have h1 := mc_perm h x; walk_at "pm"
theorem mem_s {a : Ad} {T : D} {m : Mo} {s d p l : Addr} {rs : List Addr} {M : Mem} (h : M.Perm (stC a T m s d p l rs)) : (s, MO.ins a.Store (stF T d m.next p l)) ∈ M := h.mem_iff.mpr (by simp [stC])
theorem mem_d {a : Ad} {T : D} {m : Mo} {s d p l : Addr} {rs : List Addr} {M : Mem} (h : M.Perm (stC a T m s d p l rs)) : (d, MO.dK (saidK m.said)) ∈ M := h.mem_iff.mpr (by simp [stC])
theorem mem_p {a : Ad} {T : D} {m : Mo} {s d p l : Addr} {rs : List Addr} {M : Mem} (h : M.Perm (stC a T m s d p l rs)) : (p, MO.lst (rs.map D.ref)) ∈ M := h.mem_iff.mpr (by simp [stC])
theorem mem_l {a : Ad} {T : D} {m : Mo} {s d p l : Addr} {rs : List Addr} {M : Mem} (h : M.Perm (stC a T m s d p l rs)) : (l, MO.lst m.log) ∈ M := h.mem_iff.mpr (by simp [stC])
theorem vc_Store_put_in (a : Ad) : ∀ ds M P EX, sp_Store_put_in a ds M P EX → t_Store_put_in a (startA N_Store_put_in ds) M (retK P EX) := by
  intro ds M P EX ⟨s, sx, S, N, t, m, y, hd, hx, ⟨d, p, l, rs, hr, hM⟩, hn, ⟨hf1, hf2, hf3⟩, hp⟩
  subst hd
  have gy := hf2 y (by simp)
  unfold t_Store_put_in
  show (aSeq _ _) [some (.ref s), some y, none, none] _ _
  walk_at "go"
  refine fld_m (mem_s hM) lkTalk ?_
  walk_at "go"
  refine cm0 ⟨sx, S, N, t, y, rfl, hx, rfl, gy.1, ?_⟩
  rw [gy.2.1]
  walk_at "go"
  refine fld_m (mem_s hM) lkSaid ?_
  walk_at "go"
  refine LenDA.mk (.mu (mem_d hM)) ?_
  walk_at "go"
  have hl12 : m.said.length < 12 := by simp at hf1; omega
  refine ite_r (fun h => absurd h (by simp [saidK]; omega)) (fun _ => ?_)
  walk_at "go"
  refine inst_m (mem_s hM) (lkMeth (by decide +kernel)) ?_
  walk_at "go"
  refine cmA ⟨s, TalkD a sx N t, m, rfl, ⟨d, p, l, rs, hr, hM⟩, by omega, fun M' hM' => ?_⟩
  obtain ⟨d, p, l, rs, hr, hM⟩ := hM'
  walk_at "go"
  refine AddA.tup (by simp; omega) ?_
  walk_at "go"
  refine cm0 ⟨m.said.map (·.2) ++ [y], rfl, rfl, by simp; omega, fun d hd => (hf2 d hd).2.2, ?_⟩
  walk_at "go"
  refine ite_r (fun h => absurd h (by simp; omega)) (fun _ => ?_)
  walk_at "go"
  refine fld_m (mem_s hM) lkSpent ?_
  walk_at "go"
  refine fld_m (mem_s hM) lkSaid ?_
  walk_at "go"
  obtain ⟨M1, hp1, hM1⟩ := put_of (.dK (saidK (m.said ++ [(m.next, y)]))) (store_d hM)
  have hM1' : M1.Perm (stC a (TalkD a sx N t) { m with said := m.said ++ [(m.next, y)] } s d p l rs) := perm_mc fun x => by have h1 := mc_perm hM1 x; walk_at "pm"
  refine ⟨d, saidK m.said, Sum.inl m.next, M1, rfl, by rw [put_said hn.2]; exact hp1, rfl, by simp [saidK]; omega, ?_⟩
  walk_at "go"
  obtain ⟨M2, hp2, hM2⟩ := put_of (.ins a.Store (stF (TalkD a sx N t) d (m.next + 1) p l)) (store_s hM1')
  refine ⟨s, stF (TalkD a sx N t) d m.next p l, M2, rfl, by rw [putSpent]; exact hp2, by simp [stF], ?_⟩
  walk_at "go"
  exact ⟨_, Less.refl, hp M2 ⟨d, p, l, rs, hr, perm_mc fun x => by have h1 := mc_perm hM2 x; simp only [Mo.say]; walk_at "pm"⟩⟩
section
variable {a : Ad} {T : D} {m : Mo} {s d p l : Addr} {rs : List Addr} {M R : Mem}
theorem stR (h : M.Perm (stC a T m s d p l rs)) : M.Perm (stC a T m s d p l rs ++ []) := by simpa using h
theorem stN (h : M.Perm (stC a T m s d p l rs ++ [])) : M.Perm (stC a T m s d p l rs) := by simpa using h
theorem memR_s (h : M.Perm (stC a T m s d p l rs ++ R)) : (s, MO.ins a.Store (stF T d m.next p l)) ∈ M := h.mem_iff.mpr (by simp [stC])
theorem memR_d (h : M.Perm (stC a T m s d p l rs ++ R)) : (d, MO.dK (saidK m.said)) ∈ M := h.mem_iff.mpr (by simp [stC])
theorem memR_p (h : M.Perm (stC a T m s d p l rs ++ R)) : (p, MO.lst (rs.map D.ref)) ∈ M := h.mem_iff.mpr (by simp [stC])
theorem memR_l (h : M.Perm (stC a T m s d p l rs ++ R)) : (l, MO.lst m.log) ∈ M := h.mem_iff.mpr (by simp [stC])
/-- a line more in the log -/
theorem log_app {P : AK} (e : D) (h : M.Perm (stC a T m s d p l rs ++ R)) (hl : m.log.length ≤ 20000) (q : ∀ M', M'.Perm (stC a T { m with log := m.log ++ [e] } s d p l rs ++ R) → P .non M') : AppA (.ref l) [e] M P := by
  obtain ⟨M1, hp1, hM1⟩ := put_of (R := (s, MO.ins a.Store (stF T d m.next p l)) :: (d, MO.dK (saidK m.said)) :: (p, MO.lst (rs.map D.ref)) :: pilM rs m.marks ++ R) (.lst (m.log ++ [e])) (show M.Perm ((l, MO.lst m.log) :: _) from perm_mc fun x => by have h1 := mc_perm h x; simp only [mc_app] at *; walk_at "pm")
  exact AppA.mk hp1 (by omega) (q M1 (perm_mc fun x => by have h1 := mc_perm hM1 x; simp only [mc_app] at *; walk_at "pm"))
end
theorem vc_Store_say (a : Ad) : ∀ ds M P EX, sp_Store_say a ds M P EX → t_Store_say a (startA N_Store_say ds) M (retK P EX) := by
  intro ds M P EX ⟨s, sx, S, N, t, m, y, hd, hx, ⟨d, p, l, rs, hr, hM⟩, hn, hf, hlog, hp⟩
  subst hd
  unfold t_Store_say
  show (aSeq _ _) [some (.ref s), some y] _ _
  walk_at "go"
  refine fld_m (mem_s hM) lkLaid ⟨.mlst (mem_l hM), ?_⟩
  walk_at "go"
  refine log_app _ (stR hM) (by omega) fun M1 hM1 => ?_
  replace hM1 := stN hM1
  walk_at "go"
  refine inst_m (mem_s hM1) (lkMeth (by decide +kernel)) ?_
  walk_at "go"
  refine cmA ⟨s, sx, S, N, t, { m with log := m.log ++ [.tup [.str "in", .str "say"]] }, y, rfl, hx, ⟨d, p, l, rs, hr, hM1⟩, hn, hf, fun M2 hM2 => ?_⟩
  obtain ⟨d, p, l, rs, hr, hM2⟩ := hM2
  show (aDrop _) _ _ _
  walk_at "go"
  refine fld_m (mem_s hM2) lkLaid ⟨.mlst (mem_l hM2), ?_⟩
  walk_at "go"
  refine log_app _ (stR hM2) (by simp [Mo.say]; omega) fun M3 hM3 => ?_
  replace hM3 := stN hM3
  refine ⟨_, Less.refl, hp M3 ⟨d, p, l, rs, hr, ?_⟩⟩
  simpa [Mo.say, Mo.lg, twoW] using hM3
theorem drop_said {l : List (Int × D)} {n : Int} : dropD (saidK l) (Sum.inl n) = saidK (l.filter fun q => decide (q.1 ≠ n)) := by
  unfold dropD saidK
  rw [List.filter_map]
  congr 1
  refine List.filter_congr fun q _ => ?_
  simp
theorem val_said {l : List (Int × D)} {n : Int} (h : n ∈ l.map (·.1)) : ∃ d, valD (saidK l) (Sum.inl n) = some d := by
  unfold valD
  cases e : (saidK l).find? (fun kv => decide (kv.1 = Sum.inl n)) with
  | none =>
    obtain ⟨q, hq, hq2⟩ := List.mem_map.mp h
    have := List.find?_eq_none.mp e (Sum.inl q.1, q.2) (List.mem_map.mpr ⟨q, hq, rfl⟩)
    simp [hq2] at this
  | some kv => exact ⟨kv.2, rfl⟩
theorem vc_Store_drop (a : Ad) : ∀ ds M P EX, sp_Store_drop a ds M P EX → t_Store_drop a (startA N_Store_drop ds) M (retK P EX) := by
  intro ds M P EX ⟨s, T, m, n, hd, ⟨d, p, l, rs, hr, hM⟩, hn, hlog, hp⟩
  subst hd
  unfold t_Store_drop
  show (aSeq _ _) [some (.ref s), some (.int n)] _ _
  walk_at "go"
  refine fld_m (mem_s hM) lkLaid ⟨.mlst (mem_l hM), ?_⟩
  walk_at "go"
  refine log_app _ (stR hM) (by omega) fun M1 hM1 => ?_
  replace hM1 := stN hM1
  walk_at "go"
  refine cm0 ⟨.int n, none, none, rfl, rfl, trivial, ?_⟩
  rw [show wholeD none none (.int n) = true from rfl]
  walk_at "go"
  refine fld_m (mem_s hM1) lkSaid ?_
  obtain ⟨y, hy⟩ := val_said hn
  refine NotInDA.mk (.mu (mem_d hM1)) rfl ?_
  rw [show valD (saidK ({ m with log := m.log ++ [.tup [.str "in", .str "drop"]] } : Mo).said) (Sum.inl n) = some y from hy]
  walk_at "go"
  refine ⟨fun h => absurd h (by simp), fun _ => ?_⟩
  walk_at "go"
  refine fld_m (mem_s hM1) lkSaid ⟨⟨_, .mu (mem_d hM1)⟩, ?_⟩
  walk_at "go"
  obtain ⟨M2, hp2, hM2⟩ := put_of (.dK (saidK (m.said.filter fun q => decide (q.1 ≠ n)))) (store_d hM1)
  have hM2' : M2.Perm (stC a T { m with said := m.said.filter (fun q => decide (q.1 ≠ n)), log := m.log ++ [.tup [.str "in", .str "drop"]] } s d p l rs) := perm_mc fun x => by have h1 := mc_perm hM2 x; walk_at "pm"
  refine ⟨d, saidK m.said, Sum.inl n, y, M2, rfl, by rw [drop_said]; exact hp2, rfl, hy, ?_⟩
  walk_at "go"
  refine fld_m (mem_s hM2') lkLaid ⟨.mlst (mem_l hM2'), ?_⟩
  walk_at "go"
  refine log_app _ (stR hM2') (by simp; omega) fun M3 hM3 => ?_
  replace hM3 := stN hM3
  walk_at "go"
  refine ⟨_, Less.refl, hp M3 ⟨d, p, l, rs, hr, ?_⟩⟩
  simpa [Mo.drop, Mo.lg, twoW] using hM3
theorem pilM_snoc {rs : List Addr} {ms : List (List (Int × D))} {q : Addr} {z : List (Int × D)} (h : rs.length = ms.length) : pilM (rs ++ [q]) (ms ++ [z]) = pilM rs ms ++ [(q, MO.dK (saidK z))] := by
  unfold pilM
  rw [List.zip_append h]
  simp
theorem vc_Store_mark (a : Ad) : ∀ ds M P EX, sp_Store_mark a ds M P EX → t_Store_mark a (startA N_Store_mark ds) M (retK P EX) := by
  intro ds M P EX ⟨s, T, m, hd, ⟨d, p, l, rs, hr, hM⟩, hlog, hmk, hp⟩
  subst hd
  unfold t_Store_mark
  show (aSeq _ _) [some (.ref s)] _ _
  walk_at "go"
  refine fld_m (mem_s hM) lkLaid ⟨.mlst (mem_l hM), ?_⟩
  walk_at "go"
  refine log_app _ (stR hM) (by omega) fun M1 hM1 => ?_
  replace hM1 := stN hM1
  walk_at "go"
  refine fld_m (mem_s hM1) lkPiles ⟨.mlst (mem_p hM1), ?_⟩
  walk_at "go"
  refine fld_m (mem_s hM1) lkSaid ?_
  refine DictMA.mk (.mu (mem_d hM1)) fun q hq => ?_
  walk_at "go"
  obtain ⟨M2, hp2, hM2⟩ := put_of (M := M1 ++ [(q, MO.dK (saidK m.said))]) (R := (s, MO.ins a.Store (stF T d m.next p l)) :: (d, MO.dK (saidK m.said)) :: (l, MO.lst (m.log ++ [.tup [.str "in", .str "mark"]])) :: (pilM rs m.marks ++ [(q, MO.dK (saidK m.said))])) (.lst ((rs ++ [q]).map D.ref))
    (show (M1 ++ [(q, MO.dK (saidK m.said))]).Perm ((p, MO.lst (rs.map D.ref)) :: _) from perm_mc fun x => by have h1 := mc_perm hM1 x; walk_at "pm")
  have hM2' : M2.Perm (stC a T { m with marks := m.marks ++ [m.said], log := m.log ++ [.tup [.str "in", .str "mark"]] } s d p l (rs ++ [q])) := perm_mc fun x => by
    have h1 := mc_perm hM2 x
    simp only [stC, pilM_snoc hr]
    walk_at "pm"
  refine AppA.mk (by rw [List.map_append] at hp2; exact hp2) (by simp; omega) ?_
  walk_at "go"
  refine fld_m (mem_s hM2') lkPiles ?_
  refine LenA.seq (.mu (mem_p hM2')) ?_
  have e : (((rs ++ [q]).map D.ref).length : Int) = (m.marks.length : Int) + 1 := by simp [hr]
  rw [e]
  walk_at "go"
  refine fld_m (mem_s hM2') lkLaid ⟨.mlst (mem_l hM2'), ?_⟩
  walk_at "go"
  refine log_app _ (stR hM2') (by simp; omega) fun M3 hM3 => ?_
  replace hM3 := stN hM3
  refine ⟨_, Less.refl, hp M3 ⟨d, p, l, rs ++ [q], by simp [Mo.mark, Mo.lg, hr], ?_⟩⟩
  simpa [Mo.mark, Mo.lg, twoW] using hM3
theorem vc_Store_back (a : Ad) : ∀ ds M P EX, sp_Store_back a ds M P EX → t_Store_back a (startA N_Store_back ds) M (retK P EX) := by
  intro ds M P EX ⟨s, T, m, ms, z, hd, ⟨d, p, l, rs, hr, hM⟩, hlog, hmk, hp⟩
  subst hd
  unfold t_Store_back
  show (aSeq _ _) [some (.ref s)] _ _
  walk_at "go"
  refine fld_m (mem_s hM) lkLaid ⟨.mlst (mem_l hM), ?_⟩
  walk_at "go"
  refine log_app _ (stR hM) (by omega) fun M1 hM1 => ?_
  replace hM1 := stN hM1
  rw [hmk] at hr
  obtain ⟨rs', r, rfl⟩ : ∃ rs' r, rs = rs' ++ [r] := by
    rcases List.eq_nil_or_concat rs with h | ⟨rs', r, h⟩
    · rw [h] at hr; simp at hr
    · exact ⟨rs', r, by rw [h]; simp⟩
  have hr' : rs'.length = ms.length := by simpa using hr
  walk_at "go"
  refine fld_m (mem_s hM1) lkPiles ?_
  refine LenA.seq (.mu (mem_p hM1)) ?_
  walk_at "go"
  refine ⟨fun h => absurd h (by simp; omega), fun _ => ?_⟩
  walk_at "go"
  refine fld_m (mem_s hM1) lkPiles ⟨.mlst (mem_p hM1), ?_⟩
  walk_at "go"
  obtain ⟨M2, hp2, hM2⟩ := put_of (.lst (rs'.map D.ref)) (store_p hM1)
  refine PopA.mk (y := .ref r) (M' := M2) (by rw [show ((rs' ++ [r]).map D.ref).dropLast = rs'.map D.ref by simp]; exact hp2) (by simp) ?_
  walk_at "go"
  obtain ⟨M3, hp3, hM3⟩ := put_of (M := M2) (R := (p, MO.lst (rs'.map D.ref)) :: (d, MO.dK (saidK m.said)) :: (l, MO.lst (m.log ++ [.tup [.str "in", .str "back"]])) :: (pilM rs' ms ++ [(r, MO.dK (saidK z))])) (.ins a.Store (stF T r m.next p l))
    (show M2.Perm ((s, MO.ins a.Store (stF T d m.next p l)) :: _) from perm_mc fun x => by
      have h1 := mc_perm hM2 x
      simp only [hmk, pilM_snoc hr'] at h1
      walk_at "pm")
  refine ⟨s, stF T d m.next p l, M3, rfl, by rw [putSaid]; exact hp3, by simp [stF], ?_⟩
  have hM3' : M3.Perm (stC a T { said := z, next := m.next, marks := ms, log := m.log ++ [.tup [.str "in", .str "back"]] } s r p l rs' ++ [(d, MO.dK (saidK m.said))]) := perm_mc fun x => by
    have h1 := mc_perm hM3 x
    walk_at "pm"
  walk_at "go"
  refine fld_m (memR_s hM3') lkLaid ⟨.mlst (memR_l hM3'), ?_⟩
  walk_at "go"
  refine log_app _ hM3' (by simp; omega) fun M4 hM4 => ?_
  walk_at "go"
  obtain ⟨M5, h5, h6⟩ := less_of hM4
  refine ⟨M5, h5, hp M5 ⟨r, p, l, rs', hr', ?_⟩⟩
  simpa [Mo.lg, twoW] using h6
theorem vc_Store_standing (a : Ad) : ∀ ds M P EX, sp_Store_standing a ds M P EX → t_Store_standing a (startA N_Store_standing ds) M (retK P EX) := by
  intro ds M P EX ⟨s, T, m, hd, ⟨d, p, l, rs, hr, hM⟩, hp⟩
  subst hd
  unfold t_Store_standing
  show (aRet _) [some (.ref s)] _ _
  walk_at "go"
  refine fld_m (mem_s hM) lkSaid ?_
  refine DictMA.mk (.mu (mem_d hM)) fun q hq => ?_
  walk_at "go"
  exact ⟨_, Less.refl, hp q M _ ⟨d, p, l, rs, hr, hM⟩ (perm_mc fun x => by walk_at "pm")⟩
theorem vc_Store_log (a : Ad) : ∀ ds M P EX, sp_Store_log a ds M P EX → t_Store_log a (startA N_Store_log ds) M (retK P EX) := by
  intro ds M P EX ⟨s, T, m, hd, ⟨d, p, l, rs, hr, hM⟩, hlog, hp⟩
  subst hd
  unfold t_Store_log
  show (aRet _) [some (.ref s)] _ _
  walk_at "go"
  refine fld_m (mem_s hM) lkLaid ?_
  refine TupleA.seq (.mu (mem_l hM)) ?_
  walk_at "go"
  exact ⟨_, Less.refl, hp M ⟨d, p, l, rs, hr, hM⟩⟩
theorem vc_Store_talk (a : Ad) : ∀ ds M P EX, sp_Store_talk a ds M P EX → t_Store_talk a (startA N_Store_talk ds) M (retK P EX) := by
  intro ds M P EX ⟨s, T, m, hd, ⟨d, p, l, rs, hr, hM⟩, hp⟩
  subst hd
  unfold t_Store_talk
  show (aRet _) [some (.ref s)] _ _
  walk_at "go"
  refine fld_m (mem_s hM) lkTalk ?_
  walk_at "go"
  exact ⟨_, Less.refl, hp M ⟨d, p, l, rs, hr, hM⟩⟩
theorem vc_Store_len (a : Ad) : ∀ ds M P EX, sp_Store_len a ds M P EX → t_Store_len a (startA N_Store_len ds) M (retK P EX) := by
  intro ds M P EX ⟨s, T, m, hd, ⟨d, p, l, rs, hr, hM⟩, hp⟩
  subst hd
  unfold t_Store_len
  show (aRet _) [some (.ref s)] _ _
  walk_at "go"
  refine fld_m (mem_s hM) lkSaid ?_
  refine LenDA.mk (.mu (mem_d hM)) ?_
  walk_at "go"
  rw [show (saidK m.said).length = m.said.length by simp [saidK]]
  exact ⟨_, Less.refl, hp M ⟨d, p, l, rs, hr, hM⟩⟩
theorem log2_small {n : Nat} (h : n < 2 ^ 64) : n.log2 < 1920 := by
  by_cases h0 : n = 0
  · rw [h0]; decide
  · have := (Nat.log2_lt h0 (k := 64)).mpr h
    omega
theorem vc_Store_repr (a : Ad) : ∀ ds M P EX, sp_Store_repr a ds M P EX → t_Store_repr a (startA N_Store_repr ds) M (retK P EX) := by
  intro ds M P EX ⟨s, T, m, hd, ⟨d, p, l, rs, hr, hM⟩, hl, hp⟩
  subst hd
  unfold t_Store_repr
  show (aRet _) [some (.ref s)] _ _
  walk_at "go"
  refine ⟨.str, ?_⟩
  walk_at "go"
  refine fld_m (mem_s hM) lkSaid ?_
  refine LenDA.mk (.mu (mem_d hM)) ?_
  rw [show (saidK m.said).length = m.said.length by simp [saidK]]
  refine StrA.int (log2_small (by omega)) ?_
  walk_at "go"
  have e12 : (10 : Nat) ^ 12 = 1000000000000 := by decide
  have hz : (Str.ofString (toString (m.said.length : Int))).length ≤ 13 := PyData.shown_int_le (by rw [e12]; omega)
  refine JoinA.mk (ss := ["Store(", Str.ofString (toString (m.said.length : Int)), " sayings)"]) .fr ?_ ?_
  · have e1 : (Str.ofString "Store(").length = 6 := by decide +kernel
    have e2 : (Str.ofString " sayings)").length = 9 := by decide +kernel
    have e3 : (Str.ofString "").length = 0 := by decide +kernel
    simp only [List.map_cons, List.map_nil, List.sum_cons, List.sum_nil, List.length_cons, List.length_nil, e1, e2, e3]
    omega
  · walk_at "go"
    exact ⟨_, Less.refl, hp M ⟨d, p, l, rs, hr, hM⟩⟩
theorem vc_Store_twin (a : Ad) : ∀ ds M P EX, sp_Store_twin a ds M P EX → t_Store_twin a (startA N_Store_twin ds) M (retK P EX) := by
  intro ds M P EX ⟨s, T, m, hd, ⟨d, p, l, rs, hr, hM⟩, hlog, hmk, hp⟩
  subst hd
  unfold t_Store_twin
  show (aSeq _ _) [some (.ref s), none, none] _ _
  walk_at "go"
  refine fld_m (mem_s hM) lkTalk ?_
  walk_at "go"
  intro x hx
  refine callM_p (C := [(x, .ins a.Store [])]) (R := M) (List.Perm.refl _) ⟨x, T, rfl, rfl, fun M' hM' => ⟨rfl, ?_⟩⟩
  rw [if_pos rfl]
  obtain ⟨d2, p2, l2, rs2, hr2, hM2⟩ := hM'
  obtain rfl : rs2 = [] := List.length_eq_zero_iff.mp (by simpa using hr2)
  have hW : (M' ++ M).Perm (stC a T m s d p l rs ++ [(x, .ins a.Store (stF T d2 0 p2 l2)), (d2, .dK []), (p2, .lst []), (l2, .lst [])]) := perm_mc fun y => by
    have h1 := mc_perm hM y
    have h2 := mc_perm hM2 y
    simp only [stC, pilM, List.zip_nil_left, List.map_nil, saidK] at h2
    walk_at "pm"
  generalize M' ++ M = W at hW
  walk_at "go"
  refine fld_m (memR_s hW) lkSaid ?_
  refine DictMA.mk (.mu (memR_d hW)) fun q1 hq1 => ?_
  walk_at "go"
  obtain ⟨W1, hp1, hW1⟩ := put_of (M := W ++ [(q1, MO.dK (saidK m.said))]) (R := stC a T m s d p l rs ++ [(q1, MO.dK (saidK m.said)), (d2, .dK []), (p2, .lst []), (l2, .lst [])]) (.ins a.Store (stF T q1 0 p2 l2))
    (show (W ++ [(q1, MO.dK (saidK m.said))]).Perm ((x, MO.ins a.Store (stF T d2 0 p2 l2)) :: _) from perm_mc fun y => by have h1 := mc_perm hW y; walk_at "pm")
  refine ⟨x, stF T d2 0 p2 l2, W1, rfl, by rw [putSaid]; exact hp1, by simp [stF], ?_⟩
  have hW1' : W1.Perm (stC a T m s d p l rs ++ [(x, .ins a.Store (stF T q1 0 p2 l2)), (q1, MO.dK (saidK m.said)), (d2, .dK []), (p2, .lst []), (l2, .lst [])]) := perm_mc fun y => by have h1 := mc_perm hW1 y; walk_at "pm"
  walk_at "go"
  refine fld_m (memR_s hW1') lkSpent ?_
  walk_at "go"
  obtain ⟨W2, hp2, hW2⟩ := put_of (.ins a.Store (stF T q1 m.next p2 l2)) hW1
  refine ⟨x, stF T q1 0 p2 l2, W2, rfl, by rw [putSpent]; exact hp2, by simp [stF], ?_⟩
  have hW2' : W2.Perm (stC a T m s d p l rs ++ [(x, .ins a.Store (stF T q1 m.next p2 l2)), (q1, MO.dK (saidK m.said)), (d2, .dK []), (p2, .lst []), (l2, .lst [])]) := perm_mc fun y => by have h1 := mc_perm hW2 y; walk_at "pm"
  walk_at "go"
  refine fld_m (memR_s hW2') lkPiles ?_
  refine ⟨p, rs.map D.ref, rfl, memR_p hW2', ?_⟩
  refine ⟨fun i acc M' => ∃ qs : List Addr, qs.length = i ∧ acc = qs.map D.ref ∧ M'.Perm (stC a T m s d p l rs ++ ([(x, .ins a.Store (stF T q1 m.next p2 l2)), (q1, MO.dK (saidK m.said)), (d2, .dK []), (p2, .lst []), (l2, .lst [])] ++ pilM qs (m.marks.take i))), ⟨[], rfl, rfl, by simpa [pilM] using hW2'⟩, fun i acc M' hj => ?_, fun i y acc M' hy hj => ?_, fun acc M' hj => ?_⟩
  · obtain ⟨qs, h1, h2, h3⟩ := hj
    exact memR_p h3
  · obtain ⟨qs, rfl, rfl, h3⟩ := hj
    rw [List.getElem?_map] at hy
    cases hq : rs[qs.length]? with
    | none => rw [hq] at hy; cases hy
    | some r =>
      rw [hq] at hy; cases hy
      obtain ⟨hi, hqe⟩ := List.getElem?_eq_some_iff.mp hq
      have hi2 : qs.length < m.marks.length := by omega
      have hm : (r, MO.dK (saidK m.marks[qs.length])) ∈ M' := h3.mem_iff.mpr (by
        refine List.mem_append_left _ ?_
        unfold stC pilM
        refine List.mem_cons_of_mem _ (List.mem_cons_of_mem _ (List.mem_cons_of_mem _ (List.mem_cons_of_mem _ ?_)))
        refine List.mem_map.mpr ⟨(r, m.marks[qs.length]), List.mem_of_getElem? (i := qs.length) (List.getElem?_zip_eq_some.mpr ⟨hq, List.getElem?_eq_getElem hi2⟩), rfl⟩)
      walk_at "go"
      refine DictMA.mk (.mu hm) fun q hq' => ?_
      refine ⟨by simp; omega, qs ++ [q], by simp, by simp, ?_⟩
      rw [List.take_succ_eq_append_getElem hi2, pilM_snoc (by simp; omega)]
      exact perm_mc fun y => by have h1 := mc_perm h3 y; walk_at "pm"
  · obtain ⟨qs, h1, rfl, h3⟩ := hj
    rw [List.length_map] at h1
    have hqm : qs.length = m.marks.length := by omega
    have e : m.marks.take (rs.map D.ref).length = m.marks := by rw [List.length_map, hr, List.take_length]
    rw [e] at h3
    walk_at "go"
    intro q3 hq3
    walk_at "go"
    obtain ⟨W3, hp3, hW3⟩ := put_of (M := M' ++ [(q3, MO.lst (qs.map D.ref))]) (R := stC a T m s d p l rs ++ ((q1, MO.dK (saidK m.said)) :: (q3, MO.lst (qs.map D.ref)) :: (d2, .dK []) :: (p2, .lst []) :: (l2, .lst []) :: pilM qs m.marks)) (.ins a.Store (stF T q1 m.next q3 l2))
      (show (M' ++ [(q3, MO.lst (qs.map D.ref))]).Perm ((x, MO.ins a.Store (stF T q1 m.next p2 l2)) :: _) from perm_mc fun y => by have h1 := mc_perm h3 y; walk_at "pm")
    refine ⟨x, stF T q1 m.next p2 l2, W3, rfl, by rw [putPiles]; exact hp3, by simp [stF], ?_⟩
    have hW3' : W3.Perm (stC a T m s d p l rs ++ ((x, .ins a.Store (stF T q1 m.next q3 l2)) :: (q1, MO.dK (saidK m.said)) :: (q3, MO.lst (qs.map D.ref)) :: (d2, .dK []) :: (p2, .lst []) :: (l2, .lst []) :: pilM qs m.marks)) := perm_mc fun y => by have h1 := mc_perm hW3 y; walk_at "pm"
    walk_at "go"
    refine fld_m (memR_s hW3') lkLaid ?_
    refine ListMA.seq (.mu (memR_l hW3')) fun q4 hq4 => ?_
    walk_at "go"
    obtain ⟨W4, hp4, hW4⟩ := put_of (M := W3 ++ [(q4, MO.lst m.log)]) (R := stC a T m s d p l rs ++ ((q1, MO.dK (saidK m.said)) :: (q3, MO.lst (qs.map D.ref)) :: (q4, MO.lst m.log) :: (d2, .dK []) :: (p2, .lst []) :: (l2, .lst []) :: pilM qs m.marks)) (.ins a.Store (stF T q1 m.next q3 q4))
      (show (W3 ++ [(q4, MO.lst m.log)]).Perm ((x, MO.ins a.Store (stF T q1 m.next q3 l2)) :: _) from perm_mc fun y => by have h1 := mc_perm hW3' y; walk_at "pm")
    refine ⟨x, stF T q1 m.next q3 l2, W4, rfl, by rw [putLaid]; exact hp4, by simp [stF], ?_⟩
    have hW4' : W4.Perm ((stC a T m s d p l rs ++ stC a T m x q1 q3 q4 qs) ++ [(d2, .dK []), (p2, .lst []), (l2, .lst [])]) := perm_mc fun y => by have h1 := mc_perm hW4 y; walk_at "pm"
    walk_at "go"
    obtain ⟨W5, h5, h6⟩ := less_of hW4'
    exact ⟨W5, h5, hp x _ _ W5 ⟨d, p, l, rs, hr, List.Perm.refl _⟩ ⟨q1, q3, q4, qs, hqm, List.Perm.refl _⟩ h6⟩
theorem sayL_app {m : Mo} {ys zs : List D} : m.sayL (ys ++ zs) = (m.sayL ys).sayL zs := by unfold Mo.sayL; rw [List.foldl_append]
theorem sayL_said : ∀ {ys : List D} {m : Mo}, (m.sayL ys).said.map (·.2) = m.said.map (·.2) ++ ys
  | [], m => by simp [Mo.sayL]
  | y :: ys, m => by
    have := sayL_said (ys := ys) (m := m.say y)
    simp only [Mo.sayL, List.foldl_cons] at this ⊢
    rw [this]; simp [Mo.say]
theorem sayL_next : ∀ {ys : List D} {m : Mo}, (m.sayL ys).next = m.next + ys.length
  | [], m => by simp [Mo.sayL]
  | y :: ys, m => by
    have := sayL_next (ys := ys) (m := m.say y)
    simp only [Mo.sayL, List.foldl_cons] at this ⊢
    rw [this]; simp [Mo.say]; omega
theorem sayL_marks : ∀ {ys : List D} {m : Mo}, (m.sayL ys).marks = m.marks ∧ (m.sayL ys).log = m.log
  | [], m => ⟨rfl, rfl⟩
  | y :: ys, m => by
    have := sayL_marks (ys := ys) (m := m.say y)
    simp only [Mo.sayL, List.foldl_cons] at this ⊢
    exact this
theorem NumOk.say {m : Mo} (h : NumOk m) (d : D) : NumOk (m.say d) := by
  obtain ⟨h1, h2⟩ := h
  refine ⟨?_, fun q hq => ?_⟩
  · show ((m.said ++ [(m.next, d)]).map (·.1)).Pairwise (· < ·)
    rw [List.map_append]
    refine List.pairwise_append.mpr ⟨h1, by simp, fun x hx y hy => ?_⟩
    obtain ⟨q, hq, rfl⟩ := List.mem_map.mp hx
    simp at hy
    rw [hy]; exact h2 q hq
  · have hq' : q ∈ m.said ++ [(m.next, d)] := hq
    show q.1 < m.next + 1
    rcases List.mem_append.mp hq' with z | z
    · have := h2 q z; omega
    · simp at z; rw [z]; show m.next < _; omega
theorem NumOk.sayL : ∀ {ys : List D} {m : Mo}, NumOk m → NumOk (m.sayL ys)
  | [], _, h => h
  | y :: ys, m, h => NumOk.sayL (ys := ys) (h.say y)
theorem cntL_pos {l : List D} (h : ∀ d ∈ l, cnB 6 d = true) : 1 ≤ cntL l := by
  have key : ∀ (l : List D) (c : Int), 1 ≤ c → (∀ d ∈ l, cnB 6 d = true) → 1 ≤ (l.map fun d => (cnt d).1).foldl (· * ·) c := by
    intro l
    induction l with
    | nil => intro c hc _; exact hc
    | cons d r ih =>
      intro c hc h
      have hd := (cnt_small (h d List.mem_cons_self) (by omega)).1.1
      refine ih (c * (cnt d).1) ?_ fun x hx => h x (List.mem_cons_of_mem _ hx)
      have := Int.mul_le_mul hc hd (by omega) (by omega)
      omega
  exact key l 1 (by omega) h
theorem cntL_le {l r : List D} (hl : ∀ d ∈ l, cnB 6 d = true) (h : ∀ d ∈ r, cnB 6 d = true) : cntL l ≤ cntL (l ++ r) := by
  rw [cntL_app]
  have key : ∀ (r : List D) (c : Int), 1 ≤ c → (∀ d ∈ r, cnB 6 d = true) → c ≤ (r.map fun d => (cnt d).1).foldl (· * ·) c := by
    intro r
    induction r with
    | nil => intro c _ _; exact Int.le_refl _
    | cons d r ih =>
      intro c hc h
      have hd := (cnt_small (h d List.mem_cons_self) (by omega)).1.1
      have h1 : c ≤ c * (cnt d).1 := by
        have := Int.mul_le_mul_of_nonneg_left hd (show (0 : Int) ≤ c by omega)
        simpa using this
      exact Int.le_trans h1 (ih (c * (cnt d).1) (by omega) fun x hx => h x (List.mem_cons_of_mem _ hx))
  exact key r _ (cntL_pos hl) h
theorem fits_pre {S N : List Str} {l r : List D} (h : fitsB S N (l ++ r)) : fitsB S N l := by
  obtain ⟨h1, h2, h3⟩ := h
  have hl : ∀ d ∈ l, cnB 6 d = true := fun d hd => (h2 d (List.mem_append_left _ hd)).2.2
  have hr : ∀ d ∈ r, cnB 6 d = true := fun d hd => (h2 d (List.mem_append_right _ hd)).2.2
  exact ⟨by simp at h1; omega, fun d hd => h2 d (List.mem_append_left _ hd), Int.le_trans (cntL_le hl hr) h3⟩
theorem rngD_snoc {n : Int} {i : Nat} : rngD n i ++ [.int (n + i)] = rngD n (i + 1) := by
  unfold rngD
  rw [List.range_succ, List.map_append]; rfl
theorem HandA.ty {M : Mem} {x : D} {ys : List D} {Mx : Mem} {P : AK} (h : HandA x ys Mx) (hm : ∀ q ∈ Mx, q ∈ M) (q : P (.bl true) M) : IsiTA [x, .tup [.ty "tuple", .ty "list"]] M P := by
  have k1 : kitL "tuple" ["tuple", "list"] = some true := by decide +kernel
  have k2 : kitL "list" ["tuple", "list"] = some true := by decide +kernel
  rcases h with ⟨rfl | rfl, _⟩ | ⟨b, rfl, rfl⟩
  · exact IsiTA.mk (cs := ["tuple", "list"]) .tup k1 q
  · exact IsiTA.mk (cs := ["tuple", "list"]) .lst k2 q
  · exact IsiTA.mk (cs := ["tuple", "list"]) (.mlst (l := ys) (hm _ (by simp))) k2 q
theorem HandA.it {M : Mem} {x : D} {ys : List D} {Mx : Mem} {Q : List D → (Mem → Prop) → Prop} (h : HandA x ys Mx) (hm : ∀ q ∈ Mx, q ∈ M) (q : ∀ C : Mem → Prop, (∀ M' : Mem, (∀ q ∈ Mx, q ∈ M') → C M') → Q ys C) :
    (∃ l, (x = .tup l ∨ x = .lst l ∨ x = .lsk l) ∧ Q l (fun _ => True)) ∨ ∃ a l, x = .ref a ∧ (a, MO.lst l) ∈ M ∧ Q l (fun M' => (a, MO.lst l) ∈ M') := by
  rcases h with ⟨rfl | rfl, _⟩ | ⟨b, rfl, rfl⟩
  · exact Or.inl ⟨ys, Or.inl rfl, q _ fun _ _ => trivial⟩
  · exact Or.inl ⟨ys, Or.inr (Or.inl rfl), q _ fun _ _ => trivial⟩
  · exact Or.inr ⟨b, ys, rfl, hm _ (by simp), q _ fun M' h => h _ (by simp)⟩
theorem vc_Store_say_all (a : Ad) : ∀ ds M P EX, sp_Store_say_all a ds M P EX → t_Store_say_all a (startA N_Store_say_all ds) M (retK P EX) := by
  intro ds M P EX ⟨s, sx, S, N, t, m, x, ys, Ms, Mx, hd, hx, hh, ⟨d, p, l, rs, hr, hMs⟩, hM0, hn, hf, hlog, hp⟩
  subst hd
  have hM : M.Perm (stC a (TalkD a sx N t) m s d p l rs ++ Mx) := hM0.trans (hMs.append_right _)
  unfold t_Store_say_all
  show (aSeq _ _) [some (.ref s), some x, none, none, none, none] _ _
  walk_at "go"
  refine fld_m (memR_s hM) lkLaid ⟨.mlst (memR_l hM), ?_⟩
  walk_at "go"
  refine log_app _ hM (by omega) fun M1 hM1 => ?_
  walk_at "go"
  refine fld_m (memR_s hM1) lkSaid ?_
  refine DictMA.mk (.mu (memR_d hM1)) fun q hq => ?_
  have hM2 : (M1 ++ [(q, MO.dK (saidK m.said))]).Perm (stC a (TalkD a sx N t) { m with log := m.log ++ [.tup [.str "in", .str "say_all"]] } s d p l rs ++ (Mx ++ [(q, MO.dK (saidK m.said))])) := perm_mc fun y => by have h1 := mc_perm hM1 y; walk_at "pm"
  show aCons (aFld a.Store "spent" (aVar 0)) aNil _ (M1 ++ [(q, MO.dK (saidK m.said))]) _ _
  generalize M1 ++ [(q, MO.dK (saidK m.said))] = W at hM2
  walk_at "go"
  refine fld_m (memR_s hM2) lkSpent ?_
  walk_at "go"
  have hmx : ∀ {W : Mem} {C : Mem}, W.Perm (C ++ (Mx ++ [(q, MO.dK (saidK m.said))])) → ∀ z ∈ Mx, z ∈ W := fun {W C} h z hz => h.mem_iff.mpr (List.mem_append_right _ (List.mem_append_left _ hz))
  refine hh.ty (hmx hM2) ?_
  walk_at "go"
  refine iSeqA_r ?_
  walk_at "go"
  refine hh.it (Q := fun l C => LcC [5] (gNameA 5) aYes _ l C _ _ _) (hmx hM2) fun C hC => ?_
  refine ⟨fun i acc M' => ∃ d p l rs, rs.length = m.marks.length ∧ acc = rngD m.next i ∧ M'.Perm (stC a (TalkD a sx N t) { (m.sayL (ys.take i)) with log := m.log ++ [.tup [.str "in", .str "say_all"]] } s d p l rs ++ (Mx ++ [(q, MO.dK (saidK m.said))])), ⟨d, p, l, rs, hr, rfl, hM2⟩, fun i acc M' hj => ?_, fun i y acc M' hy hj => ?_, fun acc M' hj => ?_⟩
  · obtain ⟨d, p, l, rs, hr, rfl, hM'⟩ := hj
    exact hC M' (hmx hM')
  · obtain ⟨d, p, l, rs, hr, rfl, hM'⟩ := hj
    walk_at "go"
    refine inst_m (memR_s hM') (lkMeth (by decide +kernel)) ?_
    walk_at "go"
    obtain ⟨hi, rfl⟩ := List.getElem?_eq_some_iff.mp hy
    have et : ys.take (i + 1) = ys.take i ++ [ys[i]] := List.take_succ_eq_append_getElem hi
    have ef : m.said.map (·.2) ++ ys = ((m.said.map (·.2) ++ ys.take i) ++ [ys[i]]) ++ ys.drop (i + 1) := by
      rw [List.append_assoc, List.append_assoc, ← List.append_assoc (ys.take i), ← et, List.take_append_drop]
    refine callM_p hM' ⟨s, sx, S, N, t, _, ys[i], rfl, hx, ⟨d, p, l, rs, by rw [hr]; exact congrArg List.length sayL_marks.1.symm, List.Perm.refl _⟩, (NumOk.sayL hn : NumOk (m.sayL (ys.take i))), ?_, fun M'' hM'' => ?_⟩
    · show fitsB S N ((m.sayL (ys.take i)).said.map (·.2) ++ [ys[i]])
      rw [sayL_said]
      rw [ef] at hf
      exact fits_pre hf
    · obtain ⟨d, p, l, rs, hr, hM''⟩ := hM''
      refine ⟨by have := hf.1; rw [rngD_length]; simp at this; omega, d, p, l, rs, hr.trans (congrArg List.length sayL_marks.1), ?_, ?_⟩
      · rw [show ({ (m.sayL (ys.take i)) with log := m.log ++ [.tup [.str "in", .str "say_all"]] } : Mo).next = (m.sayL (ys.take i)).next from rfl, sayL_next, List.length_take_of_le (by omega), rngD_snoc]
      · rw [et, sayL_app]
        exact hM''.append_right _
  · obtain ⟨d, p, l, rs, hr, rfl, hM'⟩ := hj
    rw [List.take_length] at hM'
    walk_at "go"
    refine fld_m (memR_s hM') lkLaid ⟨.mlst (memR_l hM'), ?_⟩
    walk_at "go"
    refine log_app _ hM' (by simp; omega) fun M3 hM3 => ?_
    refine aIfS_r (aB_r' ?_)
    refine aBin_r ?_
    refine vN2 (aC_r ?_)
    refine isn_tup ⟨false, rfl, fun h => absurd h (by decide), fun _ => ?_⟩
    show ∃ M1, Less M1 M3 ∧ P (.tup (rngD m.next ys.length)) M1
    obtain ⟨M5, h5, h6⟩ := less_of (C := stC a (TalkD a sx N t) ((m.sayL ys).lg "say_all") s d p l rs ++ Mx) (J := [(q, MO.dK (saidK m.said))]) (M := M3) (by
      rw [List.append_assoc]
      have e : ({ (m.sayL ys) with log := (m.log ++ [.tup [.str "in", .str "say_all"]]) ++ [.tup [.str "out", .str "say_all"]] } : Mo) = (m.sayL ys).lg "say_all" := by
        unfold Mo.lg
        rw [sayL_marks.2]; simp [twoW]
      rw [← e]
      exact hM3)
    exact ⟨M5, h5, hp _ M5 ⟨d, p, l, rs, hr.trans (congrArg List.length (show m.marks = ((m.sayL ys).lg "say_all").marks from sayL_marks.1.symm)), List.Perm.refl _⟩ h6⟩
theorem pyS : ∀ S : List Str, Paired IsPy (S.map D.str) (S.map PyData.str)
  | [] => .nil
  | s :: r => .cons (.str s) (pyS r)
theorem eqv_strs : ∀ S S' : List Str, PyData.eqvAll (S.map PyData.str) (S'.map PyData.str) = decide (S = S')
  | [], [] => by simp [PyData.eqvAll]
  | [], b :: r => by simp [PyData.eqvAll]
  | a :: r, [] => by simp [PyData.eqvAll]
  | a :: r, b :: r' => by
    have ih := eqv_strs r r'
    simp only [List.map_cons, PyData.eqvAll, ih, PyData.eqv]
    by_cases h : a = b <;> by_cases h2 : r = r' <;> simp [h, h2]
theorem lay_strs : ∀ {S : List Str}, (∀ s ∈ S, s.cps.toList.all (fun c => decide (c < 55296)) = true) → PyData.canLayAll0 (S.map PyData.str) = true ∧ PyData.depthAll (S.map PyData.str) = 0
  | [], _ => ⟨by simp [PyData.canLayAll0], by simp [PyData.depthAll]⟩
  | s :: r, h => by
    obtain ⟨h1, h2⟩ := lay_strs (S := r) fun x hx => h x (List.mem_cons_of_mem _ hx)
    have hs := (Shw.str (w := s.length) (Nat.le_refl _) fun c hc => by simpa using List.all_eq_true.mp (h s List.mem_cons_self) c hc).lay
    exact ⟨by simp [PyData.canLayAll0, hs, h1], by simp [PyData.depthAll, PyData.depth, h2]⟩
def tkP (S N : List Str) (t : Int) : PyData := .tuple [.tuple (S.map PyData.str), .tuple (N.map PyData.str), .int t]
theorem tk_py {S N : List Str} {t : Int} : IsPy (.tup [.tup (S.map D.str), .tup (N.map D.str), .int t]) (tkP S N t) := .tup (.cons (.tup (pyS S)) (.cons (.tup (pyS N)) (.cons (.int t) .nil)))
theorem tk_sh {S N : List Str} {t : Int} (hS : Small2 S) (hN : Small2 N) : SeqAt.shaped (tkP S N t) = true := by
  obtain ⟨a1, a2⟩ := lay_strs fun s hs => (hS.2 s hs).2
  obtain ⟨b1, b2⟩ := lay_strs fun s hs => (hN.2 s hs).2
  unfold SeqAt.shaped tkP
  simp [PyData.canLay0, PyData.canLayAll0, PyData.depth, PyData.depthAll, a1, a2, b1, b2]
theorem tk_eq {S N S' N' : List Str} {t t' : Int} : PyData.eqv (tkP S N t) (tkP S' N' t') = decide (S = S' ∧ N = N' ∧ t = t') := by
  unfold tkP
  simp only [PyData.eqv, PyData.eqvAll, eqv_strs]
  by_cases h1 : S = S' <;> by_cases h2 : N = N' <;> by_cases h3 : t = t' <;> simp [h1, h2, h3]
theorem vc_Talk_eq (a : Ad) : ∀ ds M P EX, sp_Talk_eq a ds M P EX → t_Talk_eq a (startA N_Talk_eq ds) M (retK P EX) := by
  intro ds M P EX ⟨sx, sy, S, N, S', N', t, t', hd, hx, hy, hM, h1, h2, h3, h4, hp⟩
  subst hd hM
  unfold t_Talk_eq
  show (aSeq _ _) [some (.obj a.Talk (talkF sx N t)), some (.obj a.Talk (talkF sy N' t')), none] _ _
  rw [← tk_eq] at hp
  rcases hx with rfl | rfl <;> rcases hy with rfl | rfl
  all_goals
    walk_at "go"
    refine IsiOwnA.own .fr ?_
    walk_at "go"
    refine EqA.py tk_py tk_py (tk_sh h1 h2) (tk_sh h3 h4) ?_
    walk_at "go"
    exact hp
theorem stR2 {a : Ad} {T T2 : D} {m m2 : Mo} {s s2 d p l d2 p2 l2 : Addr} {rs rs2 : List Addr} {M Ms Ms2 : Mem} (h : M.Perm (Ms ++ Ms2)) (h1 : Ms.Perm (stC a T m s d p l rs)) (h2 : Ms2.Perm (stC a T2 m2 s2 d2 p2 l2 rs2)) : M.Perm (stC a T m s d p l rs ++ stC a T2 m2 s2 d2 p2 l2 rs2) :=
  h.trans ((h1.append_right _).trans (h2.append_left _))
theorem swapP {M A B : Mem} (h : M.Perm (A ++ B)) : M.Perm (B ++ A) := h.trans List.perm_append_comm
theorem vc_Store_eq (a : Ad) : ∀ ds M P EX, sp_Store_eq a ds M P EX → t_Store_eq a (startA N_Store_eq ds) M (retK P EX) := by
  intro ds M P EX ⟨s, sx, S, N, t, m, ps, hx, hS, hN, hl, hps, h⟩
  unfold t_Store_eq
  rcases h with ⟨hd, ⟨d, p, l, rs, hr, hM⟩, hp⟩ | ⟨s2, sy, S', N', t', m2, ps2, Ms, Ms2, hd, hy, hS', hN', hl2, hps2, ⟨d, p, l, rs, hr, h1⟩, ⟨d2, p2, l2, rs2, hr2, h2⟩, hM0, hp⟩ | ⟨y, hd, hy, ⟨d, p, l, rs, hr, hM⟩, hp⟩ | ⟨b, kvs, Ms, hd, ⟨d, p, l, rs, hr, h1⟩, hM0, hp⟩
  · subst hd
    show (aSeq _ _) [some (.ref s), some (.ref s)] _ _
    walk_at "go"
    refine IsiOwnA.own (.mu (mem_s hM)) ?_
    walk_at "go"
    refine fld_m (mem_s hM) lkTalk ?_
    walk_at "go"
    refine inst_m (mem_s hM) (lkMeth (by decide +kernel)) ?_
    walk_at "go"
    refine cmA ⟨s, TalkD a sx N t, m, rfl, ⟨d, p, l, rs, hr, hM⟩, fun M1 hM1 => ?_⟩
    obtain ⟨d, p, l, rs, hr, hM1⟩ := hM1
    refine ⟨⟨_, .fr⟩, .own .fr, cm0 ⟨sx, sx, S, N, S, N, t, t, rfl, hx, hx, rfl, hS, hN, hS, hN, ?_⟩⟩
    rw [decide_eq_true (⟨rfl, rfl, rfl⟩ : S = S ∧ N = N ∧ t = t)]
    refine ⟨true, rfl, ?_⟩
    walk_at "go"
    refine inst_m (mem_s hM1) (lkMeth (by decide +kernel)) ?_
    walk_at "go"
    refine cmA ⟨s, TalkD a sx N t, m, rfl, ⟨d, p, l, rs, hr, hM1⟩, hl, fun M2 hM2 => ?_⟩
    obtain ⟨d, p, l, rs, hr, hM2⟩ := hM2
    walk_at "go"
    refine inst_m (mem_s hM2) (lkMeth (by decide +kernel)) ?_
    walk_at "go"
    refine cmA ⟨s, TalkD a sx N t, m, rfl, ⟨d, p, l, rs, hr, hM2⟩, hl, fun M3 hM3 => ?_⟩
    refine EqA.py (.tup hps.1) (.tup hps.1) hps.2 hps.2 ?_
    walk_at "go"
    exact ⟨_, Less.refl, hp M3 hM3⟩
  · subst hd
    have hM := stR2 hM0 h1 h2
    show (aSeq _ _) [some (.ref s), some (.ref s2)] _ _
    walk_at "go"
    refine IsiOwnA.own (.mu (memR_s (swapP hM))) ?_
    walk_at "go"
    refine fld_m (memR_s hM) lkTalk ?_
    walk_at "go"
    refine inst_m (memR_s (swapP hM)) (lkMeth (by decide +kernel)) ?_
    walk_at "go"
    refine callM_p (swapP hM) ⟨s2, TalkD a sy N' t', m2, rfl, ⟨d2, p2, l2, rs2, hr2, List.Perm.refl _⟩, fun M1 hM1 => ?_⟩
    obtain ⟨d2, p2, l2, rs2, hr2, hM1⟩ := hM1
    have hA := swapP (hM1.append_right (stC a (TalkD a sx N t) m s d p l rs))
    refine ⟨⟨_, .fr⟩, .own .fr, cm0 ⟨sx, sy, S, N, S', N', t, t', rfl, hx, hy, rfl, hS, hN, hS', hN', ?_⟩⟩
    refine ⟨_, rfl, ?_⟩
    walk_at "go"
    refine ite_r (fun h => ?_) (fun h => ?_)
    · walk_at "go"
      refine inst_m (memR_s hA) (lkMeth (by decide +kernel)) ?_
      walk_at "go"
      refine callM_p hA ⟨s, TalkD a sx N t, m, rfl, ⟨d, p, l, rs, hr, List.Perm.refl _⟩, hl, fun M2 hM2 => ?_⟩
      obtain ⟨d, p, l, rs, hr, hM2⟩ := hM2
      have hB := hM2.append_right (stC a (TalkD a sy N' t') m2 s2 d2 p2 l2 rs2)
      walk_at "go"
      refine inst_m (memR_s (swapP hB)) (lkMeth (by decide +kernel)) ?_
      walk_at "go"
      refine callM_p (swapP hB) ⟨s2, TalkD a sy N' t', m2, rfl, ⟨d2, p2, l2, rs2, hr2, List.Perm.refl _⟩, hl2, fun M3 hM3 => ?_⟩
      refine EqA.py (.tup hps.1) (.tup hps2.1) hps.2 hps2.2 ?_
      walk_at "go"
      have := hp _ M3 (M3 ++ stC a (TalkD a sx N t) m s d p l rs) ⟨d, p, l, rs, hr, List.Perm.refl _⟩ hM3 List.perm_append_comm
      rw [h] at this
      exact ⟨_, Less.refl, this⟩
    · walk_at "go"
      have := hp (stC a (TalkD a sx N t) m s d p l rs) M1 _ ⟨d, p, l, rs, hr, List.Perm.refl _⟩ ⟨d2, p2, l2, rs2, hr2, hM1⟩ (List.perm_append_comm (l₁ := M1))
      rw [h] at this
      exact ⟨_, Less.refl, this⟩
  · subst hd
    rcases hy with ⟨i, rfl⟩ | ⟨z, rfl⟩
    · show (aSeq _ _) [some (.ref s), some (.int i)] _ _
      walk_at "go"
      refine IsiOwnA.int ?_
      walk_at "go"
      exact ⟨_, Less.refl, hp M ⟨d, p, l, rs, hr, hM⟩⟩
    · show (aSeq _ _) [some (.ref s), some (.str z)] _ _
      walk_at "go"
      refine IsiOwnA.str ?_
      walk_at "go"
      exact ⟨_, Less.refl, hp M ⟨d, p, l, rs, hr, hM⟩⟩
  · subst hd
    have hb : (b, MO.dK kvs) ∈ M := hM0.mem_iff.mpr (by simp)
    show (aSeq _ _) [some (.ref s), some (.ref b)] _ _
    walk_at "go"
    refine IsiOwnA.dic (.mu hb) ?_
    walk_at "go"
    exact ⟨_, Less.refl, hp Ms M ⟨d, p, l, rs, hr, h1⟩ hM0⟩
theorem vc_l_signed (a : Ad) : ∀ ds M P EX, sp_l_signed a ds M P EX → t_l_signed a (startA N_l_signed ds) M (retK P EX) := by
  intro ds M P EX ⟨p, l, B, t, hd, hM, hl, hB, h1, h2, hp⟩
  subst hd hM
  unfold t_l_signed
  show (aRet _) [some (.ref p), some (.int t)] _ _
  walk_at "go"
  refine cmA ⟨p, l, B, 2 * t + 1, rfl, rfl, hl, by omega, by omega, by omega, fun r l' r0 r1 hl' => ?_⟩
  walk_at "go"
  exact hp _ _ (by omega) (by omega) hl'
theorem atx_nat {α : Type} {l : List α} {i : Nat} {x : α} (h : l[i]? = some x) : atI l (i : Int) = some x := by
  have hi := (List.getElem?_eq_some_iff.mp h).1
  unfold atI
  have : ixN l.length (i : Int) = some i := by
    unfold ixN
    rw [if_pos (by omega)]
    simp [hi]
  rw [this]; exact h
theorem atx_some {α : Type} {l : List α} {r : Int} (h0 : 0 ≤ r) (h1 : r < l.length) : ∃ x, atI l r = some x ∧ x ∈ l := by
  obtain ⟨i, rfl⟩ : ∃ i : Nat, r = i := ⟨r.toNat, by omega⟩
  have hi : i < l.length := by omega
  exact ⟨l[i], atx_nat (List.getElem?_eq_getElem hi), List.getElem_mem hi⟩
theorem Pool_mono {B B' : Int} {l : List D} (h : Pool B l) (h1 : B ≤ B') (h2 : B' ≤ 1000000) : Pool B' l := by
  obtain ⟨x, c, t, e, b1, b2, b3, b4, b5⟩ := h
  exact ⟨x, c, t, e, b1, b2, b3, by omega, h2⟩
theorem vc_l_term (n : Nat) (a : Ad) : ∀ ds M P EX, sp_l_term (n + 1) a ds M P EX → t_l_term n a (startA N_l_term ds) M (retK P EX) := by
  intro ds M P EX ⟨p, l, B, S, k, hd, hM, hl, hB, hk1, hkn, hn3, hS, hp⟩
  subst hd hM
  unfold t_l_term
  show (aSeq _ _) [some (.ref p), some (.tup (S.map D.str)), some (.int k), none, none, none] _ _
  have kb : (3 : Int) ≤ 2 ^ (k + 1) - 1 ∧ (2 : Int) ^ (k + 1) ≤ 16 := by
    rcases (show k = 1 ∨ k = 2 ∨ k = 3 by omega) with rfl | rfl | rfl <;> decide
  walk_at "go"
  refine cmA ⟨p, l, B, 9, rfl, rfl, hl, by omega, by omega, by omega, fun w l1 w0 w1 hl1 => ?_⟩
  have fin : ∀ (K : KE) (L : List D) (B2 : Int) (l2 : List D) (x4 : Option D), K.rt = (retK P EX).rt → L ≠ [] → L.length ≤ 100 → (∀ x ∈ L, TermR S k x) → Pool B2 l2 → B2 ≤ B + 2 →
      (aRet (aBin IxA (aVar 5) (aCall (sp_l_take a) (fun ds _ => ds) 2 (aCons (aVar 0) (aCons (aCB LenA (aCons (aVar 5) aNil)) aNil))))) [some (.ref p), some (.tup (S.map D.str)), some (.int k), some (.int w), x4, some (.lst L)] [(p, .lst l2)] K := by
    intro K L B2 l2 x4 hK h0 h1 h2 h3 h4
    have hl0 : 0 < L.length := List.length_pos_iff.mpr h0
    walk_at "go"
    refine cmA ⟨p, l2, B2, L.length, rfl, rfl, h3, by omega, by omega, by omega, fun r l3 r0 r1 hl3 => ?_⟩
    obtain ⟨x, ex, hx⟩ := atx_some r0 r1
    refine IxA.seq .fr ex ?_
    rw [hK]
    walk_at "go"
    exact hp x l3 (h2 x hx) (Pool_mono hl3 (by omega) (by omega))
  have tS : ∀ x ∈ S.map D.str, TermR S k x := by
    intro x hx
    obtain ⟨s, hs, rfl⟩ := List.mem_map.mp hx
    obtain ⟨m, rfl⟩ : ∃ m, k = m + 1 := ⟨k - 1, by omega⟩
    exact .set hs
  have tA : ∀ x ∈ S.map D.str ++ [.tup [.str "all"], .tup [.str "none"]], TermR S k x := by
    intro x hx
    rcases List.mem_append.mp hx with h | h
    · exact tS x h
    · obtain ⟨m, rfl⟩ : ∃ m, k = m + 1 := ⟨k - 1, by omega⟩
      simp only [List.mem_cons, List.not_mem_nil, or_false] at h
      rcases h with rfl | rfl
      · exact .one (Or.inl rfl)
      · exact .one (Or.inr rfl)
  have leaf : ∀ (K : KE), K.rt = (retK P EX).rt →
  (aSeq (aAsg (aBin AddA (aCB ListA (aCons (aVar 1) aNil)) (aLst (aCons (aTup (aCons (aC (.str "all")) aNil)) (aCons (aTup (aCons (aC (.str "none")) aNil)) aNil)))) (gNameA 5))
  (aSeq (aIfS (aAnd (aB (aBin GtA (aCB LenA (aCons (aVar 1) aNil)) (aC (.int 0)))) (aB (aBin GtA (aCall (sp_l_take a) (fun ds _ => ds) 2 (aCons (aVar 0) (aCons (aC (.int 6)) aNil))) (aC (.int 0)))))
  (aAsg (aCB ListA (aCons (aVar 1) aNil)) (gNameA 5))
  aNext)
  (aRet (aBin IxA (aVar 5) (aCall (sp_l_take a) (fun ds _ => ds) 2 (aCons (aVar 0) (aCons (aCB LenA (aCons (aVar 5) aNil)) aNil))))))) [some (.ref p), some (.tup (S.map D.str)), some (.int k), some (.int w), none, none] [(p, .lst l1)] K := by
    intro K hK
    walk_at "go"
    refine AddA.lst .fr .fr (by simp; omega) ?_
    refine gN5 ?_
    refine aSeq_r (aIfS_r (aAnd_r ?_))
    walk_at "go"
    refine ite_r (fun h3 => ?_) (fun h3 => ?_)
    · walk_at "go"
      refine cmA ⟨p, l1, B + 1, 6, rfl, rfl, hl1, by omega, by omega, by omega, fun r2 l2 r20 r21 hl2 => ?_⟩
      walk_at "go"
      refine ite_r (fun h4 => ?_) (fun h4 => ?_)
      · refine aAsg_r (aCB_r (aCons_r (vN1 (aNil_r (ListA.seq .tup (gN5 ?_))))))
        refine fin K _ (B + 1 + 1) l2 _ hK ?_ (by simp; omega) tS hl2 (by omega)
        intro z
        rw [z] at h3
        simp at h3
      · refine aNext_r ?_
        exact fin K _ (B + 1 + 1) l2 _ hK (by simp) (by simp; omega) tA hl2 (by omega)
    · refine ⟨fun z => absurd z (by decide), fun _ => ?_⟩
      refine aNext_r ?_
      exact fin K _ (B + 1) l1 _ hK (by simp) (by simp; omega) tA hl1 (by omega)
  refine gN3 ?_
  refine aSeq_r (aIfS_r (aOr_r ?_))
  walk_at "go"
  refine ite_r (fun h => ⟨fun _ => leaf _ rfl, fun z => absurd z (by decide)⟩) (fun h => ?_)
  walk_at "go"
  refine ite_r (fun h2 => leaf _ rfl) (fun h2 => ?_)
  have hk : ¬ k < 2 := by simp at h; omega
  have hw : ¬ w < 3 := by simp at h2; omega
  obtain ⟨m, rfl⟩ : ∃ m, k = m + 1 := ⟨k - 1, by omega⟩
  have mb : (2 : Int) ^ (m + 1 + 1) = 2 * 2 ^ (m + 1) := by rw [Int.pow_succ]; omega
  walk_at "go"
  refine ite_r (fun h3 => ?_) (fun h3 => ?_)
  · walk_at "go"
    refine cmA ⟨p, l1, B + 1, S, m, by simp, rfl, hl1, by omega, by omega, by omega, by omega, hS, fun d l2 hd hl2 => ?_⟩
    walk_at "go"
    exact hp _ l2 (.no hd) (Pool_mono hl2 (by omega) (by omega))
  · walk_at "go"
    refine cmA ⟨p, l1, B + 1, S, m, by simp, rfl, hl1, by omega, by omega, by omega, by omega, hS, fun d l2 hd hl2 => ?_⟩
    walk_at "go"
    obtain ⟨x, ex, hx⟩ := atx_some (l := [D.str "and", .str "or", .str "but"]) (r := w % 3) (by omega) (by simp; omega)
    refine IxA.seq .fr ex ?_
    walk_at "go"
    refine cmA ⟨p, l2, B + 1 + (2 ^ (m + 1) - 1), S, m, by simp, rfl, hl2, by omega, by omega, by omega, by omega, hS, fun d2 l3 hd2 hl3 => ?_⟩
    walk_at "go"
    have hx' : ∃ z : Str, x = .str z ∧ (z = "and" ∨ z = "or" ∨ z = "but") := by
      simp only [List.mem_cons, List.not_mem_nil, or_false] at hx
      rcases hx with rfl | rfl | rfl
      · exact ⟨_, rfl, Or.inl rfl⟩
      · exact ⟨_, rfl, Or.inr (Or.inl rfl)⟩
      · exact ⟨_, rfl, Or.inr (Or.inr rfl)⟩
    obtain ⟨z, rfl, hz⟩ := hx'
    exact hp _ l3 (.two hz hd hd2) (Pool_mono hl3 (by omega) (by omega))
theorem vc_l_sum (a : Ad) : ∀ ds M P EX, sp_l_sum a ds M P EX → t_l_sum a (startA N_l_sum ds) M (retK P EX) := by
  intro ds M P EX ⟨p, l, B, S, N, hd, hM, hl, hB, hT, hp⟩
  subst hd hM
  obtain ⟨hS3, hN2, _⟩ := hT
  unfold t_l_sum
  show (aSeq _ _) [some (.ref p), some (tonD S N), some (.int 2), some (.int 9), none, none, none] _ _
  unfold tonD
  walk_at "go"
  intro q hq
  walk_at "go"
  refine cm1 ⟨p, l, B, 3, rfl, rfl, hl, by omega, by omega, by omega, fun r l1 r0 r1 hl1 => ?_⟩
  walk_at "go"
  refine ⟨fun i ρ' M' => ∃ (x5 x6 : Option D) (l' : List D) (L : List D), ρ' = [some (.ref p), some (.tup [.tpn (S.map D.str), .tpn (N.map D.str)]), some (.int 2), some (.int 9), some (.ref q), x5, x6] ∧ M' = [(p, .lst l'), (q, .lst L)] ∧ L.length = i ∧ (∀ x ∈ L, AddR S N x) ∧ Pool (B + 1 + 17 * i) l', ⟨none, none, l1, [], rfl, rfl, rfl, by simp, by simpa using hl1⟩, fun i d ρ' M' hx hj => ?_, fun ρ' M' hj => ?_⟩
  · obtain ⟨x5, x6, l', L, rfl, rfl, hL, hA, hl'⟩ := hj
    have hi := (rngD_get hx).1
    walk_at "go"
    refine cm1 ⟨p, l', B + 1 + 17 * i, 4, rfl, rfl, hl', by omega, by omega, by omega, fun w l2 w0 w1 hl2 => ?_⟩
    walk_at "go"
    refine ite_r (fun h => ?_) (fun h => ?_)
    · walk_at "go"
      refine ⟨.mlst (l := L) (by simp), ?_⟩
      walk_at "go"
      refine cm1 ⟨p, l2, B + 1 + 17 * i + 1, 9, rfl, rfl, hl2, by omega, by omega, by omega, fun r l3 r0 r1 hl3 => ?_⟩
      walk_at "go"
      refine AppA.mk (.there .here) (by omega) ?_
      walk_at "go"
      refine ⟨_, _, l3, L ++ [_], rfl, rfl, by simp [hL], fun x hx => ?_, Pool_mono hl3 (by push_cast; omega) (by push_cast; omega)⟩
      rcases List.mem_append.mp hx with y | y
      · exact hA x y
      · rw [List.mem_singleton.mp y]; exact .lot (by omega) (by omega)
    · have size : ∀ (K : KE), (∀ x ρ' M', (∃ (x5 x6 : Option D) (l' : List D) (L : List D), ρ' = [some (.ref p), some (.tup [.tpn (S.map D.str), .tpn (N.map D.str)]), some (.int 2), some (.int 9), some (.ref q), x5, x6] ∧ M' = [(p, .lst l'), (q, .lst L)] ∧ L.length = x ∧ (∀ x ∈ L, AddR S N x) ∧ Pool (B + 1 + 17 * x) l') → x = i + 1 → K.nx ρ' M') →
        (aDrop (aBM "list" AppA (aVar 4) (aCons (aTup (aCons (aC (.str "size")) (aCons (aCall (sp_l_signed a) (fun ds _ => ds) 2 (aCons (aVar 0) (aCons (aVar 3) aNil))) (aCons (aCall (sp_l_term 3 a) (fun ds _ => ds) 3 (aCons (aVar 0) (aCons (aWk (aBin IxA (aVar 1) (aC (.int 0)))) (aCons (aC (.int 3)) aNil)))) aNil)))) aNil)))
        [some (.ref p), some (.tup [.tpn (S.map D.str), .tpn (N.map D.str)]), some (.int 2), some (.int 9), some (.ref q), some d, some (.int w)] [(p, .lst l2), (q, .lst L)] K := by
        intro K hK
        walk_at "go"
        refine ⟨.mlst (l := L) (by simp), ?_⟩
        walk_at "go"
        refine cm1 ⟨p, l2, B + 1 + 17 * i + 1, 9, rfl, rfl, hl2, by omega, by omega, by omega, fun r l3 r0 r1 hl3 => ?_⟩
        walk_at "go"
        refine cm1 ⟨p, l3, B + 1 + 17 * i + 1 + 1, S, 3, rfl, rfl, hl3, by omega, by omega, by omega, by omega, hS3, fun t l4 ht hl4 => ?_⟩
        walk_at "go"
        refine AppA.mk (.there .here) (by omega) ?_
        refine hK (i + 1) _ _ ⟨_, _, l4, L ++ [_], rfl, rfl, by simp [hL], fun x hx => ?_, Pool_mono hl4 (by push_cast; omega) (by push_cast; omega)⟩ rfl
        rcases List.mem_append.mp hx with y | y
        · exact hA x y
        · rw [List.mem_singleton.mp y]; exact .size (by omega) (by omega) ht
      refine aIfS_r (aAnd_r ?_)
      walk_at "go"
      refine ite_r (fun h2 => ?_) (fun h2 => ?_)
      · walk_at "go"
        refine ite_r (fun h3 => ?_) (fun h3 => ?_)
        · walk_at "go"
          refine ⟨.mlst (l := L) (by simp), ?_⟩
          walk_at "go"
          refine cm1 ⟨p, l2, B + 1 + 17 * i + 1, 9, rfl, rfl, hl2, by omega, by omega, by omega, fun r l3 r0 r1 hl3 => ?_⟩
          walk_at "go"
          have hn0 : 0 < N.length := by simpa using h3
          refine cm1 ⟨p, l3, B + 1 + 17 * i + 1 + 1, (N.length : Int), by simp, rfl, hl3, by omega, by omega, by omega, fun r2 l4 r20 r21 hl4 => ?_⟩
          obtain ⟨x, ex, hx⟩ := atx_some (l := N.map D.str) r20 (by simpa using r21)
          refine IxA.seq .tup ex ?_
          obtain ⟨s, hs, rfl⟩ := List.mem_map.mp hx
          walk_at "go"
          refine AppA.mk (.there .here) (by omega) ?_
          walk_at "go"
          refine ⟨_, _, l4, L ++ [_], rfl, rfl, by simp [hL], fun x hx => ?_, Pool_mono hl4 (by push_cast; omega) (by push_cast; omega)⟩
          rcases List.mem_append.mp hx with y | y
          · exact hA x y
          · rw [List.mem_singleton.mp y]; exact .num (by omega) (by omega) hs
        · exact size _ fun x ρ' M' hj e => by subst e; exact hj
      · refine ⟨fun z => absurd z (by decide), fun _ => ?_⟩
        exact size _ fun x ρ' M' hj e => by subst e; exact hj
  · obtain ⟨x5, x6, l', L, rfl, rfl, hL, hA, hl'⟩ := hj
    rw [rngD_length] at hL hl'
    walk_at "go"
    have h2 : L.length ≤ 2 := by omega
    exact ⟨_, (List.nil_sublist _).cons₂ _, hp _ l' ⟨L, rfl, h2, hA⟩ (Pool_mono hl' (by omega) (by omega))⟩
theorem in_pair {x y : Str} {d : D} (h : d ∈ [D.str x, .str y]) : ∃ z : Str, d = .str z ∧ (z = x ∨ z = y) := by
  simp only [List.mem_cons, List.not_mem_nil, or_false] at h
  rcases h with rfl | rfl
  · exact ⟨_, rfl, Or.inl rfl⟩
  · exact ⟨_, rfl, Or.inr rfl⟩
theorem vc_l_leaf (a : Ad) : ∀ ds M P EX, sp_l_leaf a ds M P EX → t_l_leaf a (startA N_l_leaf ds) M (retK P EX) := by
  intro ds M P EX ⟨p, l, B, S, N, hd, hM, hl, hB, hT, hp⟩
  subst hd hM
  have hT' := hT
  obtain ⟨hS3, hN2, _⟩ := hT'
  unfold t_l_leaf
  show (aSeq _ _) [some (.ref p), some (tonD S N), some (.int 2), some (.int 9), none, none] _ _
  walk_at "go"
  refine cmA ⟨p, l, B, 6, rfl, rfl, hl, by omega, by omega, by omega, fun w l1 w0 w1 hl1 => ?_⟩
  walk_at "go"
  refine ite_r (fun h => ?_) (fun h => ?_)
  · have hw : w < 2 := by simpa using h
    walk_at "go"
    obtain ⟨x, ex, hx⟩ := atx_some (l := [D.str "atmost", .str "equal"]) w0 (by simpa using hw)
    refine IxA.seq .fr ex ?_
    obtain ⟨z, rfl, hz⟩ := in_pair hx
    walk_at "go"
    refine cmA ⟨p, l1, B + 1, S, N, rfl, rfl, hl1, by omega, hT, fun d l2 hd hl2 => ?_⟩
    walk_at "go"
    refine cmA ⟨p, l2, B + 1 + 40, S, N, rfl, rfl, hl2, by omega, hT, fun e l3 he hl3 => ?_⟩
    walk_at "go"
    exact hp _ _ (.sums hz hd he) (Pool_mono hl3 (by omega) (by omega))
  walk_at "go"
  refine ite_r (fun h2 => ?_) (fun h2 => ?_)
  · walk_at "go"
    refine cmA ⟨p, l1, B + 1, 8, rfl, rfl, hl1, by omega, by omega, by omega, fun r l2 r0 r1 hl2 => ?_⟩
    walk_at "go"
    refine cmA ⟨p, l2, B + 1 + 1, S, N, rfl, rfl, hl2, by omega, hT, fun d l3 hd hl3 => ?_⟩
    walk_at "go"
    exact hp _ _ (.parts (by omega) (by omega) hd) (Pool_mono hl3 (by omega) (by omega))
  walk_at "go"
  refine ite_r (fun h3 => ?_) (fun h3 => ?_)
  · walk_at "go"
    refine cmA ⟨p, l1, B + 1, 2, rfl, rfl, hl1, by omega, by omega, by omega, fun r l2 r0 r1 hl2 => ?_⟩
    obtain ⟨x, ex, hx⟩ := atx_some (l := [D.str "within", .str "same"]) r0 (by simpa using r1)
    refine IxA.seq .fr ex ?_
    obtain ⟨z, rfl, hz⟩ := in_pair hx
    unfold tonD
    walk_at "go"
    refine cmA ⟨p, l2, B + 1 + 1, S, 3, rfl, rfl, hl2, by omega, by omega, by omega, by omega, hS3, fun t l3 ht hl3 => ?_⟩
    walk_at "go"
    refine cmA ⟨p, l3, B + 1 + 1 + (2 ^ (3 + 1) - 1), S, 3, rfl, rfl, hl3, by omega, by omega, by omega, by omega, hS3, fun u l4 hu hl4 => ?_⟩
    walk_at "go"
    exact hp _ _ (.terms hz ht hu) (Pool_mono hl4 (by omega) (by omega))
  unfold tonD
  walk_at "go"
  refine cmA ⟨p, l1, B + 1, S, 3, rfl, rfl, hl1, by omega, by omega, by omega, by omega, hS3, fun t l2 ht hl2 => ?_⟩
  have sz : SumR S N (.tup [.tup [.str "size", .int 1, t]]) := ⟨_, rfl, by simp, fun x hx => by rw [List.mem_singleton.mp hx]; exact .size (by omega) (by omega) ht⟩
  walk_at "go"
  refine cmA ⟨p, l2, B + 1 + (2 ^ (3 + 1) - 1), 2, rfl, rfl, hl2, by omega, by omega, by omega, fun r l3 r0 r1 hl3 => ?_⟩
  walk_at "go"
  refine ite_r (fun h4 => ?_) (fun h4 => ?_)
  · walk_at "go"
    refine cmA ⟨p, l3, B + 1 + (2 ^ (3 + 1) - 1) + 1, 10, rfl, rfl, hl3, by omega, by omega, by omega, fun i l4 i0 i1 hl4 => ?_⟩
    walk_at "go"
    exact hp _ _ (.sums (Or.inl rfl) ⟨_, rfl, by simp, fun x hx => by rw [List.mem_singleton.mp hx]; exact .lot (by omega) (by omega)⟩ sz) (Pool_mono hl4 (by omega) (by omega))
  · walk_at "go"
    refine cmA ⟨p, l3, B + 1 + (2 ^ (3 + 1) - 1) + 1, 2, rfl, rfl, hl3, by omega, by omega, by omega, fun r2 l4 r20 r21 hl4 => ?_⟩
    obtain ⟨x, ex, hx⟩ := atx_some (l := [D.str "atmost", .str "equal"]) r20 (by simpa using r21)
    refine IxA.seq .fr ex ?_
    obtain ⟨z, rfl, hz⟩ := in_pair hx
    walk_at "go"
    refine cmA ⟨p, l4, B + 1 + (2 ^ (3 + 1) - 1) + 1 + 1, 10, rfl, rfl, hl4, by omega, by omega, by omega, fun i l5 i0 i1 hl5 => ?_⟩
    walk_at "go"
    exact hp _ _ (.sums hz sz ⟨_, rfl, by simp, fun x hx => by rw [List.mem_singleton.mp hx]; exact .lot (by omega) (by omega)⟩) (Pool_mono hl5 (by omega) (by omega))
theorem vc_l_saying (n : Nat) (a : Ad) : ∀ ds M P EX, sp_l_saying (n + 1) a ds M P EX → t_l_saying n a (startA N_l_saying ds) M (retK P EX) := by
  intro ds M P EX ⟨p, l, B, S, N, k, hd, hM, hl, hB, hT, hk1, hkn, hn4, hp⟩
  subst hd hM
  unfold t_l_saying
  show (aSeq _ _) [some (.ref p), some (tonD S N), some (.int k), some (.int 2), some (.int 9), none, none] _ _
  obtain ⟨m, rfl⟩ : ∃ m, k = m + 1 := ⟨k - 1, by omega⟩
  have mb : (110 : Int) * 2 ^ (m + 1) = 2 * (110 * 2 ^ m) := by rw [Int.pow_succ]; omega
  have mb2 : (1 : Int) ≤ 2 ^ m ∧ (2 : Int) ^ m ≤ 8 := by
    rcases (show m = 0 ∨ m = 1 ∨ m = 2 ∨ m = 3 by omega) with rfl | rfl | rfl | rfl <;> decide
  walk_at "go"
  refine cmA ⟨p, l, B, 7, rfl, rfl, hl, by omega, by omega, by omega, fun w l1 w0 w1 hl1 => ?_⟩
  have leaf : ∀ (K : KE), K.rt = (retK P EX).rt →
    (aRet (aCall (sp_l_leaf a) (fun ds _ => ds) 4 (aCons (aVar 0) (aCons (aVar 1) (aCons (aVar 3) (aCons (aVar 4) aNil)))))) [some (.ref p), some (tonD S N), some (.int ((m + 1 : Nat) : Int)), some (.int 2), some (.int 9), some (.int w), none] [(p, .lst l1)] K := by
    intro K hK
    walk_at "go"
    refine cmA ⟨p, l1, B + 1, S, N, rfl, rfl, hl1, by omega, hT, fun d l2 hd hl2 => ?_⟩
    rw [hK]
    walk_at "go"
    exact hp _ _ (.leaf hd) (Pool_mono hl2 (by omega) (by omega))
  refine gN5 ?_
  refine aSeq_r (aIfS_r (aOr_r ?_))
  walk_at "go"
  refine ite_r (fun h => ⟨fun _ => leaf _ rfl, fun z => absurd z (by decide)⟩) (fun h => ?_)
  walk_at "go"
  refine ite_r (fun h2 => leaf _ rfl) (fun h2 => ?_)
  have hk : ¬ ((m + 1 : Nat) : Int) < 2 := by simp at h; omega
  walk_at "go"
  refine ite_r (fun h3 => ?_) (fun h3 => ?_)
  · walk_at "go"
    refine cmA ⟨p, l1, B + 1, S, N, m, by simp, rfl, hl1, by omega, hT, by omega, by omega, by omega, fun d l2 hd hl2 => ?_⟩
    walk_at "go"
    exact hp _ l2 (.no hd) (Pool_mono hl2 (by omega) (by omega))
  · walk_at "go"
    refine cmA ⟨p, l1, B + 1, S, N, m, by simp, rfl, hl1, by omega, hT, by omega, by omega, by omega, fun d l2 hd hl2 => ?_⟩
    walk_at "go"
    obtain ⟨x, ex, hx⟩ := atx_some (l := [D.str "both", .str "either"]) (r := w % 2) (by omega) (by simp; omega)
    refine IxA.seq .fr ex ?_
    obtain ⟨z, rfl, hz⟩ := in_pair hx
    walk_at "go"
    refine cmA ⟨p, l2, B + 1 + (110 * 2 ^ m - 1), S, N, m, by simp, rfl, hl2, by omega, hT, by omega, by omega, by omega, fun d2 l3 hd2 hl3 => ?_⟩
    walk_at "go"
    exact hp _ l3 (.two hz hd hd2) (Pool_mono hl3 (by omega) (by omega))
theorem vc_l_cases_many (n : Nat) (a : Ad) : ∀ ds M P EX, sp_l_cases_many (n + 1) a ds M P EX → t_l_cases_many n a (startA N_l_cases_many ds) M (retK P EX) := by
  intro ds M P EX ⟨d, hd, hM, hn, hc, hp⟩
  subst hd hM
  unfold t_l_cases_many
  rcases cnB_inv hc with ⟨x, rfl, hx⟩ | ⟨w, x, y, rfl, hw, hx, hy⟩ | ⟨w, x, y, rfl, h0, h1, h2⟩
  · show (aSeq _ _) [some (.tup [.str "not", x]), none, none] _ _
    rw [cnt_not hx (by omega)] at hp
    walk_at "go"
    refine ite_r (fun h => ?_) (fun h => absurd h (by simp))
    walk_at "go"
    refine cm0 ⟨x, rfl, rfl, by omega, hx, ?_⟩
    walk_at "go"
    exact ⟨_, Less.refl, hp⟩
  · show (aSeq _ _) [some (.tup [.str w, x, y]), none, none] _ _
    have nn : ¬ w = "not" := by rcases hw with rfl | rfl <;> decide +kernel
    walk_at "go"
    refine ite_r (fun h => absurd (by simpa using h) nn) (fun h => ?_)
    walk_at "go"
    refine in_two ?_
    walk_at "go"
    refine ite_r (fun h => ?_) (fun h => absurd hw (by simpa using h))
    walk_at "go"
    refine cm0 ⟨x, rfl, rfl, by omega, hx, ?_⟩
    walk_at "go"
    refine cm0 ⟨y, rfl, rfl, by omega, hy, ?_⟩
    have sx := cnt_small hx (by omega)
    have sy := cnt_small hy (by omega)
    walk_at "go"
    refine ite_r (fun h => ?_) (fun h => ?_)
    · obtain rfl : w = "both" := by simpa using h
      rw [cnt_both hx hy (by omega)] at hp
      walk_at "go"
      exact hp
    · obtain rfl : w = "either" := by
        have : ¬ w = "both" := by simpa using h
        exact hw.resolve_left this
      rw [cnt_either hx hy (by omega)] at hp
      walk_at "go"
      exact hp
  · show (aSeq _ _) [some (.tup [.str w, x, y]), none, none] _ _
    rw [cnt_leaf h1 h2] at hp
    walk_at "go"
    refine ite_r (fun h => absurd (by simpa using h) h0) (fun h => ?_)
    walk_at "go"
    refine in_two ?_
    walk_at "go"
    refine ite_r (fun h => absurd h (by simp [h1, h2])) (fun h => ?_)
    walk_at "go"
    unfold lfC at hp
    refine IntA.bl ?_
    walk_at "go"
    have e : (1 : Int) + (if decide (w = "equal") = true then 1 else 0) = if w = "equal" then 2 else 1 := by
      by_cases h : w = "equal"
      · simp [h]
      · simp [h]
    rw [e]
    exact hp
theorem vc_l_cases_all (a : Ad) : ∀ ds M P EX, sp_l_cases_all a ds M P EX → t_l_cases_all a (startA N_l_cases_all ds) M (retK P EX) := by
  intro ds M P EX ⟨l, hd, hM, hl, hc, hp⟩
  subst hd hM
  unfold t_l_cases_all
  show (aSeq _ _) [some (.lst l), none, none] _ _
  walk_at "go"
  refine iSeqA_r ?_
  walk_at "go"
  refine Or.inl ⟨l, Or.inr (Or.inl rfl), ?_⟩
  refine ⟨fun i ρ' M' => ∃ (x2 : Option D), ρ' = [some (.lst l), some (.int (cntL (l.take i))), x2] ∧ M' = [], ⟨none, by simp [cntL], rfl⟩, fun i ρ' M' _ => trivial, fun i d ρ' M' hx hj => ?_, fun ρ' M' hj => ?_⟩
  · obtain ⟨x2, rfl, rfl⟩ := hj
    walk_at "go"
    obtain ⟨hi, rfl⟩ := List.getElem?_eq_some_iff.mp hx
    have hcd := hc _ (List.getElem_mem hi)
    have sx := cnt_small hcd (by omega)
    refine cm0 ⟨l[i], rfl, rfl, by omega, hcd, ?_⟩
    walk_at "go"
    rw [cntL_snoc hi]
    exact ⟨_, rfl, rfl⟩
  · obtain ⟨x2, rfl, rfl⟩ := hj
    rw [List.take_length]
    walk_at "go"
    exact hp
/-! sayings as the law draws them: what the program measures of them -/
theorem two_pow_pos' (n : Nat) : (1 : Int) ≤ 2 ^ n := by
  induction n with
  | zero => decide
  | succ n ih => rw [Int.pow_succ]; omega
theorem term_parts {S : List Str} : ∀ {n m : Nat} {d : D}, TermR S n d → n ≤ m → 1 ≤ partsD S m d ∧ partsD S m d ≤ 2 ^ n - 1 := by
  intro n m d h
  induction h generalizing m with
  | @set n s hs =>
    intro hm
    obtain ⟨m, rfl⟩ : ∃ k, m = k + 1 := ⟨m - 1, by omega⟩
    have e : partsD S (m + 1) (.str s) = 1 := by simp [partsD, hs]
    have := two_pow_pos' n
    rw [e, Int.pow_succ]; omega
  | @one n w hw =>
    intro hm
    obtain ⟨m, rfl⟩ : ∃ k, m = k + 1 := ⟨m - 1, by omega⟩
    have l1 : tW.lookup ("all" : Str) = some 0 := by decide +kernel
    have l2 : tW.lookup ("none" : Str) = some 0 := by decide +kernel
    have e : partsD S (m + 1) (.tup [.str w]) = 1 := by
      rcases hw with rfl | rfl
      · simp [partsD, l1]
      · simp [partsD, l2]
    have := two_pow_pos' n
    rw [e, Int.pow_succ]; omega
  | @no n t _ ih =>
    intro hm
    obtain ⟨m, rfl⟩ : ∃ k, m = k + 1 := ⟨m - 1, by omega⟩
    obtain ⟨h1, h2⟩ := ih (m := m) (by omega)
    have l1 : tW.lookup ("not" : Str) = some 1 := by decide +kernel
    have e : partsD S (m + 1) (.tup [.str "not", t]) = 1 + partsD S m t := by
      have : ¬ (0 : Int) = partsD S m t := by omega
      simp [partsD, l1, this]
    have := two_pow_pos' n
    rw [e, Int.pow_succ]; omega
  | @two n w t u hw _ _ ih1 ih2 =>
    intro hm
    obtain ⟨m, rfl⟩ : ∃ k, m = k + 1 := ⟨m - 1, by omega⟩
    obtain ⟨h1, h2⟩ := ih1 (m := m) (by omega)
    obtain ⟨h3, h4⟩ := ih2 (m := m) (by omega)
    have l1 : tW.lookup w = some 2 := by rcases hw with rfl | rfl | rfl <;> decide +kernel
    have e : partsD S (m + 1) (.tup [.str w, t, u]) = 1 + (partsD S m t + partsD S m u) := by
      have n1 : ¬ (0 : Int) = partsD S m t := by omega
      have n2 : ¬ (0 : Int) = partsD S m u := by omega
      simp [partsD, l1, n1, n2]
    rw [e, Int.pow_succ]; omega
theorem term_B {S : List Str} {d : D} (h : TermR S 3 d) : termB S d = true := by
  obtain ⟨h1, h2⟩ := term_parts h (show 3 ≤ 12 by omega)
  have e : (2 : Int) ^ 3 = 8 := by decide
  unfold termB
  rw [decide_eq_true (by omega), decide_eq_true (by omega)]; rfl
theorem add_B {S N : List Str} {d : D} (h : AddR S N d) : addB S N d = true := by
  cases h with
  | lot => simp [addB]
  | num h1 h2 h3 => simp [addB, h3]
  | size h1 h2 h3 =>
    have e : ¬ ("size" : Str) = "num" := by decide +kernel
    simp [addB, e, term_B h3]
theorem sum_B {S N : List Str} {d : D} (h : SumR S N d) : sumB S N d = true := by
  obtain ⟨l, rfl, h1, h2⟩ := h
  show (decide (l.length ≤ 12) && l.all (addB S N)) = true
  rw [decide_eq_true (by omega), List.all_eq_true.mpr fun x hx => add_B (h2 x hx)]; rfl
theorem leaf_cut {S N : List Str} {d : D} (h : LeafR S N d) : ∃ (w : Str) (x y : D), d = .tup [.str w, x, y] ∧ tJ.lookup w = none ∧ plainB S N w [x, y] = true ∧ ¬ w = "not" ∧ ¬ w = "both" ∧ ¬ w = "either" := by
  cases h with
  | @sums w x y hw hx hy =>
    refine ⟨w, x, y, rfl, ?_, ?_, ?_⟩
    · rcases hw with rfl | rfl <;> decide +kernel
    · have n1 : ¬ (w = "within" ∨ w = "same") := by rcases hw with rfl | rfl <;> decide +kernel
      have n2 : ¬ w = "parts" := by rcases hw with rfl | rfl <;> decide +kernel
      simp only [plainB]
      rw [if_neg n1, if_neg n2, if_pos hw, sum_B hx, sum_B hy]; rfl
    · rcases hw with rfl | rfl <;> decide +kernel
  | @parts i x h1 h2 hx =>
    refine ⟨"parts", .int i, x, rfl, by decide +kernel, ?_, by decide +kernel⟩
    have n1 : ¬ (("parts" : Str) = "within" ∨ ("parts" : Str) = "same") := by decide +kernel
    simp only [plainB]
    rw [if_neg n1, if_pos (by trivial), sum_B hx]
    simp [wholeD]; exact h1
  | @terms w x y hw hx hy =>
    refine ⟨w, x, y, rfl, ?_, ?_, ?_⟩
    · rcases hw with rfl | rfl <;> decide +kernel
    · simp only [plainB]
      rw [if_pos hw, term_B hx, term_B hy]; rfl
    · rcases hw with rfl | rfl <;> decide +kernel
theorem say_words {S N : List Str} : ∀ {n m : Nat} {d : D}, SayR S N n d → n ≤ m → 1 ≤ wordsD S N m d ∧ wordsD S N m d ≤ 2 ^ n - 1 := by
  intro n m d h
  induction h generalizing m with
  | @leaf n d hl =>
    intro hm
    obtain ⟨m, rfl⟩ : ∃ k, m = k + 1 := ⟨m - 1, by omega⟩
    obtain ⟨w, x, y, rfl, h1, h2, _⟩ := leaf_cut hl
    have e : wordsD S N (m + 1) (.tup [.str w, x, y]) = 1 := by
      unfold wordsD
      simp only [h1]
      rw [if_pos h2]
    have := two_pow_pos' n
    rw [e, Int.pow_succ]; omega
  | @no n d _ ih =>
    intro hm
    obtain ⟨m, rfl⟩ : ∃ k, m = k + 1 := ⟨m - 1, by omega⟩
    obtain ⟨h1, h2⟩ := ih (m := m) (by omega)
    have l1 : tJ.lookup ("not" : Str) = some 1 := by decide +kernel
    have e : wordsD S N (m + 1) (.tup [.str "not", d]) = 1 + wordsD S N m d := by
      have : ¬ (0 : Int) = wordsD S N m d := by omega
      simp [wordsD, l1, this]
    have := two_pow_pos' n
    rw [e, Int.pow_succ]; omega
  | @two n w d e' hw _ _ ih1 ih2 =>
    intro hm
    obtain ⟨m, rfl⟩ : ∃ k, m = k + 1 := ⟨m - 1, by omega⟩
    obtain ⟨h1, h2⟩ := ih1 (m := m) (by omega)
    obtain ⟨h3, h4⟩ := ih2 (m := m) (by omega)
    have l1 : tJ.lookup w = some 2 := by rcases hw with rfl | rfl <;> decide +kernel
    have e : wordsD S N (m + 1) (.tup [.str w, d, e']) = 1 + (wordsD S N m d + wordsD S N m e') := by
      have n1 : ¬ (0 : Int) = wordsD S N m d := by omega
      have n2 : ¬ (0 : Int) = wordsD S N m e' := by omega
      simp [wordsD, l1, n1, n2]
    rw [e, Int.pow_succ]; omega
theorem say_B {S N : List Str} {d : D} (h : SayR S N 4 d) : sayB S N d = true := by
  obtain ⟨h1, h2⟩ := say_words h (show 4 ≤ 6 by omega)
  have e : (2 : Int) ^ 4 = 16 := by decide
  unfold sayB
  rw [decide_eq_true h1, decide_eq_true (by omega)]; rfl
theorem say_cn {S N : List Str} {n : Nat} {d : D} (h : SayR S N n d) : cnB n d = true := by
  induction h with
  | @leaf n d hl =>
    obtain ⟨w, x, y, rfl, _, _, h0, h1, h2⟩ := leaf_cut hl
    simp [cnB, h0, h1, h2]
  | no _ ih => simp [cnB, ih]
  | two hw _ _ ih1 ih2 => simp [cnB, hw, ih1, ih2]
theorem SayR.up {S N : List Str} {n : Nat} {d : D} (h : SayR S N n d) : SayR S N (n + 1) d := by
  induction h with
  | leaf h => exact .leaf h
  | no _ ih => exact .no ih
  | two hw _ _ ih1 ih2 => exact .two hw ih1 ih2
theorem SayR.le {S N : List Str} {n m : Nat} {d : D} (h : SayR S N n d) (hm : n ≤ m) : SayR S N m d := by
  obtain ⟨k, rfl⟩ : ∃ k, m = n + k := ⟨m - n, by omega⟩
  clear hm
  induction k with
  | zero => exact h
  | succ k ih => exact ih.up
/-! .. as data that is shown, measured -/
def PyS (k w : Nat) (d : D) : Prop := Gd d ∧ ∃ p, IsPy d p ∧ Shw k w p ∧ tupOnly p = true
theorem PyS.mono {k w k' w' : Nat} {d : D} (h : PyS k w d) (hk : k ≤ k') (hw : w ≤ w') : PyS k' w' d := by
  obtain ⟨g, p, h1, h2, h3⟩ := h
  exact ⟨g, p, h1, h2.mono hk hw, h3⟩
theorem PyS.all {k w : Nat} : ∀ {l : List D}, (∀ d ∈ l, PyS k w d) → ∃ ps, Paired IsPy l ps ∧ (∀ p ∈ ps, Shw k w p) ∧ tupOnlys ps = true ∧ ps.length = l.length
  | [], _ => ⟨[], .nil, by simp, rfl, rfl⟩
  | d :: l, h => by
    obtain ⟨ps, h1, h2, h3, h4⟩ := PyS.all fun x hx => h x (List.mem_cons_of_mem _ hx)
    obtain ⟨_, p, q1, q2, q3⟩ := h d List.mem_cons_self
    refine ⟨p :: ps, .cons q1 h1, fun x hx => ?_, by simp [tupOnlys, q3, h3], by simp [h4]⟩
    rcases List.mem_cons.mp hx with rfl | hx
    · exact q2
    · exact h2 x hx
theorem PyS.tup {k w : Nat} {l : List D} (h : ∀ d ∈ l, PyS k w d) (hl : l.length ≤ 10000) : PyS (k + 1) (l.length * (w + 1)) (.tup l) := by
  obtain ⟨ps, h1, h2, h3, h4⟩ := PyS.all h
  refine ⟨.tup hl fun d hd => (h d hd).1, .tuple ps, .tup h1, ?_, by simpa [tupOnly] using h3⟩
  rw [← h4]
  exact Shw.tup h2
theorem PyS.str {s : Str} {w : Nat} (h : s.length ≤ w) (hc : ∀ c ∈ s.cps.toList, c < 55296) : PyS 0 w (.str s) := ⟨.str s, _, .str s, Shw.str h hc, rfl⟩
theorem PyS.int {i : Int} (h : i.natAbs < 10 ^ 12) : PyS 0 40 (.int i) := ⟨.int i, _, .int i, Shw.int h, rfl⟩
theorem namB_py {s : Str} (h : namB s = true) : PyS 0 8 (.str s) := by
  unfold namB at h
  simp only [Bool.and_eq_true, decide_eq_true_eq, List.all_eq_true] at h
  exact PyS.str h.2.1 fun c hc => by have := h.2.2 c hc; omega
def wT : Nat → Nat
  | 0 => 9
  | n + 1 => 3 * (wT n + 1)
theorem wT_ge : ∀ n, 9 ≤ wT n
  | 0 => Nat.le_refl _
  | n + 1 => by have := wT_ge n; simp only [wT]; omega
theorem py_all3 {k w : Nat} {x y z : D} (h1 : PyS k w x) (h2 : PyS k w y) (h3 : PyS k w z) : PyS (k + 1) (3 * (w + 1)) (.tup [x, y, z]) :=
  PyS.tup (l := [x, y, z]) (fun d hd => by
    simp only [List.mem_cons, List.not_mem_nil, or_false] at hd
    rcases hd with rfl | rfl | rfl
    · exact h1
    · exact h2
    · exact h3) (by simp)
theorem py_all2 {k w : Nat} {x y : D} (h1 : PyS k w x) (h2 : PyS k w y) : PyS (k + 1) (3 * (w + 1)) (.tup [x, y]) :=
  (PyS.tup (l := [x, y]) (fun d hd => by
    simp only [List.mem_cons, List.not_mem_nil, or_false] at hd
    rcases hd with rfl | rfl
    · exact h1
    · exact h2) (by simp)).mono (Nat.le_refl _) (by simp; omega)
theorem term_py {S : List Str} (hS : ∀ s ∈ S, namB s = true) {n : Nat} {d : D} (h : TermR S n d) : ∃ m, n = m + 1 ∧ PyS n (wT m) d := by
  induction h with
  | @set n s hs => exact ⟨n, rfl, (namB_py (hS s hs)).mono (by omega) (by have := wT_ge n; omega)⟩
  | @one n w hw =>
    refine ⟨n, rfl, (PyS.tup (l := [.str w]) (k := 0) (w := 4) (fun d hd => ?_) (by simp)).mono (by omega) (by have := wT_ge n; simp; omega)⟩
    rw [List.mem_singleton.mp hd]
    rcases hw with rfl | rfl
    · exact PyS.str (by decide +kernel) (by decide +kernel)
    · exact PyS.str (by decide +kernel) (by decide +kernel)
  | @no n t _ ih =>
    obtain ⟨m, rfl, h⟩ := ih
    exact ⟨m + 1, rfl, py_all2 ((PyS.str (w := 3) (by decide +kernel) (by decide +kernel)).mono (by omega) (by have := wT_ge m; omega)) h⟩
  | @two n w t u hw _ _ ih1 ih2 =>
    obtain ⟨m, rfl, h1⟩ := ih1
    obtain ⟨m', e, h2⟩ := ih2
    obtain rfl : m = m' := by omega
    refine ⟨m + 1, rfl, py_all3 ?_ h1 h2⟩
    have : PyS 0 3 (.str w) := by rcases hw with rfl | rfl | rfl <;> exact PyS.str (by decide +kernel) (by decide +kernel)
    exact this.mono (by omega) (by have := wT_ge m; omega)
theorem term_py3 {S : List Str} (hS : ∀ s ∈ S, namB s = true) {d : D} (h : TermR S 3 d) : PyS 3 93 d := by
  obtain ⟨m, e, h⟩ := term_py hS h
  obtain rfl : m = 2 := by omega
  exact h
theorem add_py {S N : List Str} (hS : ∀ s ∈ S, namB s = true) (hN : ∀ s ∈ N, namB s = true) {d : D} (h : AddR S N d) : PyS 4 282 d := by
  have pi : ∀ i : Int, -20 ≤ i → i ≤ 20 → PyS 3 93 (.int i) := fun i h1 h2 => (PyS.int (by have e : (10 : Nat) ^ 12 = 1000000000000 := by decide
                                                                                           rw [e]; omega)).mono (by omega) (by omega)
  cases h with
  | lot h1 h2 => exact py_all2 ((PyS.str (w := 3) (by decide +kernel) (by decide +kernel)).mono (by omega) (by omega)) (pi _ h1 h2)
  | num h1 h2 h3 => exact py_all3 ((PyS.str (w := 3) (by decide +kernel) (by decide +kernel)).mono (by omega) (by omega)) (pi _ h1 h2) ((namB_py (hN _ h3)).mono (by omega) (by omega))
  | size h1 h2 h3 => exact py_all3 ((PyS.str (w := 4) (by decide +kernel) (by decide +kernel)).mono (by omega) (by omega)) (pi _ h1 h2) (term_py3 hS h3)
theorem sum_py {S N : List Str} (hS : ∀ s ∈ S, namB s = true) (hN : ∀ s ∈ N, namB s = true) {d : D} (h : SumR S N d) : PyS 5 566 d := by
  obtain ⟨l, rfl, h1, h2⟩ := h
  refine (PyS.tup (fun d hd => add_py hS hN (h2 d hd)) (by omega)).mono (by omega) ?_
  have : l.length * (282 + 1) ≤ 2 * 283 := Nat.mul_le_mul h1 (Nat.le_refl _)
  omega
theorem leaf_py {S N : List Str} (hS : ∀ s ∈ S, namB s = true) (hN : ∀ s ∈ N, namB s = true) {d : D} (h : LeafR S N d) : PyS 6 1701 d := by
  cases h with
  | @sums w x y hw hx hy =>
    have : PyS 0 6 (.str w) := by rcases hw with rfl | rfl <;> exact PyS.str (by decide +kernel) (by decide +kernel)
    exact py_all3 (this.mono (by omega) (by omega)) (sum_py hS hN hx) (sum_py hS hN hy)
  | @parts i x h1 h2 hx =>
    have pi : PyS 0 40 (.int i) := PyS.int (by
      have e : (10 : Nat) ^ 12 = 1000000000000 := by decide
      rw [e]; omega)
    have ps : PyS 0 5 (.str "parts") := PyS.str (by decide +kernel) (by decide +kernel)
    exact py_all3 (ps.mono (by omega) (by omega)) (pi.mono (by omega) (by omega)) (sum_py hS hN hx)
  | @terms w x y hw hx hy =>
    have : PyS 0 6 (.str w) := by rcases hw with rfl | rfl <;> exact PyS.str (by decide +kernel) (by decide +kernel)
    exact py_all3 (k := 5) (w := 566) (this.mono (by omega) (by omega)) ((term_py3 hS hx).mono (by omega) (by omega)) ((term_py3 hS hy).mono (by omega) (by omega))
def wS : Nat → Nat
  | 0 => 1701
  | n + 1 => 3 * (wS n + 1)
theorem wS_ge : ∀ n, 1701 ≤ wS n
  | 0 => Nat.le_refl _
  | n + 1 => by have := wS_ge n; simp only [wS]; omega
theorem say_py {S N : List Str} (hS : ∀ s ∈ S, namB s = true) (hN : ∀ s ∈ N, namB s = true) {n : Nat} {d : D} (h : SayR S N n d) : ∃ m, n = m + 1 ∧ PyS (n + 5) (wS m) d := by
  induction h with
  | @leaf n d hl => exact ⟨n, rfl, (leaf_py hS hN hl).mono (by omega) (wS_ge n)⟩
  | @no n d _ ih =>
    obtain ⟨m, rfl, h⟩ := ih
    exact ⟨m + 1, rfl, py_all2 ((PyS.str (w := 3) (by decide +kernel) (by decide +kernel)).mono (by omega) (by have := wS_ge m; omega)) h⟩
  | @two n w d e hw _ _ ih1 ih2 =>
    obtain ⟨m, rfl, h1⟩ := ih1
    obtain ⟨m', e, h2⟩ := ih2
    obtain rfl : m = m' := by omega
    refine ⟨m + 1, rfl, py_all3 ?_ h1 h2⟩
    have : PyS 0 6 (.str w) := by rcases hw with rfl | rfl <;> exact PyS.str (by decide +kernel) (by decide +kernel)
    exact this.mono (by omega) (by have := wS_ge m; omega)
theorem say_py4 {S N : List Str} (hT : Tongue S N) {d : D} (h : SayR S N 4 d) : PyS 9 45966 d := by
  obtain ⟨m, e, h⟩ := say_py hT.2.2.1 hT.2.2.2.1 h
  obtain rfl : m = 3 := by omega
  exact h
/-- what stands, as data -/
theorem stnd_py {S N : List Str} (hT : Tongue S N) {l : List D} (h : Stnd S N l) : ∃ ps, PyL l ps ∧ (∀ p ∈ ps, Shw 9 45966 p) ∧ tupOnlys ps = true ∧ ps.length = l.length := by
  obtain ⟨ps, h1, h2, h3, h4⟩ := PyS.all fun d hd => say_py4 hT (h.2.1 d hd)
  exact ⟨ps, ⟨h1, (Shw.tup h2).shaped (by omega)⟩, h2, h3, h4⟩
theorem stnd_fits {S N : List Str} (hT : Tongue S N) {l : List D} (h : Stnd S N l) : fitsB S N l :=
  ⟨h.1, fun d hd => ⟨(say_py4 hT (h.2.1 d hd)).1, say_B (h.2.1 d hd), cnB_mono (say_cn (h.2.1 d hd)) (by omega)⟩, h.2.2⟩
/-- a dict of numbered sayings is shown -/
theorem kv_shw {k w : Nat} : ∀ {ks : List Int} {ps : List PyData}, (∀ i ∈ ks, i.natAbs < 10 ^ 12) → (∀ p ∈ ps, Shw k w p) →
    PyData.showableKv ((ks.map PyData.int).zip ps) = true ∧ PyData.depthKv ((ks.map PyData.int).zip ps) ≤ k ∧ PyData.leavesShortKv 13 ((ks.map PyData.int).zip ps) = true ∧ PyData.weightKv ((ks.map PyData.int).zip ps) ≤ ks.length * (w + 42)
  | [], _, _, _ => ⟨rfl, Nat.zero_le _, rfl, Nat.zero_le _⟩
  | i :: ks, [], _, _ => ⟨rfl, Nat.zero_le _, rfl, Nat.zero_le _⟩
  | i :: ks, p :: ps, h1, h2 => by
    obtain ⟨a1, a2, a3, a4⟩ := kv_shw (fun j hj => h1 j (List.mem_cons_of_mem _ hj)) fun q hq => h2 q (List.mem_cons_of_mem _ hq)
    have gi := Shw.int (h1 i List.mem_cons_self)
    have gp := h2 p List.mem_cons_self
    have d1 := gi.dep
    have d2 := gp.dep
    have w1 := gi.wt
    have w2 := gp.wt
    simp only [List.map_cons, List.zip_cons_cons, List.length_cons]
    refine ⟨by simp [PyData.showableKv, gi.sh, gp.sh, a1], ?_, by simp [PyData.leavesShortKv, gi.lv, gp.lv, a3], ?_⟩
    · simp only [PyData.depthKv]; omega
    · simp only [PyData.weightKv, Nat.succ_mul]; omega
theorem saidK_keys (l : List (Int × D)) : (saidK l).map (fun kv => keyP kv.1) = (l.map (·.1)).map PyData.int := by
  unfold saidK
  rw [List.map_map, List.map_map]; rfl
theorem saidK_vals (l : List (Int × D)) : (saidK l).map (·.2) = l.map (·.2) := by
  unfold saidK
  rw [List.map_map]; rfl
theorem reprD_said {l : List (Int × D)} {n : Int} {ps : List PyData} {x : D} {M : Mem} {P : AK} (hl : l.length ≤ 12) (hn : NumB n l) (hn2 : n ≤ 100000) (hp : Paired IsPy (l.map (·.2)) ps) (hw : ∀ p ∈ ps, Shw 9 45966 p) (h0 : tupOnlys ps = true) (hd : DicR M x (saidK l)) (q : P (.str (dicP (saidK l) ps).shown) M) : ReprDA [x] M P := by
  have e12 : (10 : Nat) ^ 12 = 1000000000000 := by decide
  obtain ⟨a1, a2, a3, a4⟩ := kv_shw (ks := l.map (·.1)) (ps := ps) (fun i hi => by
    obtain ⟨q, hq, rfl⟩ := List.mem_map.mp hi
    have := hn.2 q hq
    rw [e12]; omega) hw
  rw [← saidK_keys] at a1 a2 a3 a4
  refine ReprDA.mk hd (by rw [saidK_vals]; exact hp) h0 ?_ ?_ ?_ q
  · simpa [dicP, PyData.showable] using a1
  · simp only [dicP, PyData.depth]; omega
  · refine PyData.shown_fits (B := 13) (by decide) (by decide) ?_ ?_
    · simpa [dicP, PyData.leavesShort] using a3
    · have : (l.map (·.1)).length * (45966 + 42) ≤ 12 * 46008 := Nat.mul_le_mul (by simpa using hl) (Nat.le_refl _)
      simp only [dicP, PyData.weight]
      omega
theorem log_shw {l : List D} (h : ∀ d ∈ l, logW d) (hl : l.length ≤ 10000) : ∃ p, IsPy (.tup l) p ∧ Shw 2 (l.length * 28) p := by
  have : PyS 2 (l.length * (27 + 1)) (.tup l) := PyS.tup (k := 1) (w := 27) (fun d hd => by
    obtain ⟨x, y, rfl, hx, hy⟩ := h d hd
    have h1 : PyS 0 8 (.str x) := by rcases hx with rfl | rfl <;> exact PyS.str (by decide +kernel) (by decide +kernel)
    have h2 : PyS 0 8 (.str y) := by rcases hy with rfl | rfl | rfl | rfl | rfl <;> exact PyS.str (by decide +kernel) (by decide +kernel)
    exact py_all2 h1 h2) hl
  obtain ⟨_, p, h1, h2, _⟩ := this
  exact ⟨p, h1, h2⟩
theorem tongue_small {S N : List Str} (h : Tongue S N) : Small2 S ∧ Small2 N := by
  have key : ∀ s : Str, namB s = true → s.length ≤ 1000 ∧ s.cps.toList.all (fun c => decide (c < 55296)) = true := fun s hs => by
    unfold namB at hs
    simp only [Bool.and_eq_true, decide_eq_true_eq, List.all_eq_true] at hs
    refine ⟨by omega, List.all_eq_true.mpr fun c hc => decide_eq_true (by have := hs.2.2 c hc; omega)⟩
  exact ⟨⟨by have := h.1; omega, fun s hs => key s (h.2.2.1 s hs)⟩, ⟨by have := h.2.1; omega, fun s hs => key s (h.2.2.2.1 s hs)⟩⟩
section
variable {d p l d' : Addr} {n n' : Int}
theorem ks1 : ¬ (Sum.inr ("said" : Str) : Key) = Sum.inr ("next" : Str) := fun h => absurd (Sum.inr.inj h) (by decide +kernel)
theorem ks2 : ¬ (Sum.inr ("said" : Str) : Key) = Sum.inr ("marks" : Str) := fun h => absurd (Sum.inr.inj h) (by decide +kernel)
theorem ks3 : ¬ (Sum.inr ("said" : Str) : Key) = Sum.inr ("log" : Str) := fun h => absurd (Sum.inr.inj h) (by decide +kernel)
theorem ks4 : ¬ (Sum.inr ("next" : Str) : Key) = Sum.inr ("marks" : Str) := fun h => absurd (Sum.inr.inj h) (by decide +kernel)
theorem ks5 : ¬ (Sum.inr ("next" : Str) : Key) = Sum.inr ("log" : Str) := fun h => absurd (Sum.inr.inj h) (by decide +kernel)
theorem ks6 : ¬ (Sum.inr ("marks" : Str) : Key) = Sum.inr ("log" : Str) := fun h => absurd (Sum.inr.inj h) (by decide +kernel)
theorem ks7 : ¬ (Sum.inr ("next" : Str) : Key) = Sum.inr ("said" : Str) := fun h => absurd (Sum.inr.inj h) (by decide +kernel)
theorem ks8 : ¬ (Sum.inr ("marks" : Str) : Key) = Sum.inr ("next" : Str) := fun h => absurd (Sum.inr.inj h) (by decide +kernel)
theorem ks9 : ¬ (Sum.inr ("log" : Str) : Key) = Sum.inr ("next" : Str) := fun h => absurd (Sum.inr.inj h) (by decide +kernel)
theorem ks10 : ¬ (Sum.inr ("marks" : Str) : Key) = Sum.inr ("said" : Str) := fun h => absurd (Sum.inr.inj h) (by decide +kernel)
theorem ks11 : ¬ (Sum.inr ("log" : Str) : Key) = Sum.inr ("said" : Str) := fun h => absurd (Sum.inr.inj h) (by decide +kernel)
theorem mdSaid : valD (moD n d p l) (Sum.inr "said") = some (.ref d) := by simp only [valD, moD, List.find?_cons, decide_true, Option.map_some]
theorem mdNext : valD (moD n d p l) (Sum.inr "next") = some (.int n) := by simp only [valD, moD, List.find?_cons, decide_eq_false ks1, decide_true, Option.map_some]
theorem mdMarks : valD (moD n d p l) (Sum.inr "marks") = some (.ref p) := by simp only [valD, moD, List.find?_cons, decide_eq_false ks2, decide_eq_false ks4, decide_true, Option.map_some]
theorem mdLog : valD (moD n d p l) (Sum.inr "log") = some (.ref l) := by simp only [valD, moD, List.find?_cons, decide_eq_false ks3, decide_eq_false ks5, decide_eq_false ks6, decide_true, Option.map_some]
theorem mdPutSaid : putKD (moD n d p l) (Sum.inr ("said" : Str)) (.ref d') = moD n d' p l := by
  simp only [putKD, moD, List.any_cons, decide_true, Bool.true_or, if_true, List.map_cons, List.map_nil, if_neg ks7, if_neg ks10, if_neg ks11]
theorem mdPutNext : putKD (moD n d p l) (Sum.inr ("next" : Str)) (.int n') = moD n' d p l := by
  simp only [putKD, moD, List.any_cons, decide_true, Bool.true_or, Bool.or_true, if_true, List.map_cons, List.map_nil, if_neg ks1, if_neg ks8, if_neg ks9]
end
section
variable {m : Mo} {s d p l : Addr} {rs : List Addr} {M R : Mem}
theorem moR_s (h : M.Perm (moC m s d p l rs ++ R)) : (s, MO.dK (moD m.next d p l)) ∈ M := h.mem_iff.mpr (by simp [moC])
theorem moR_d (h : M.Perm (moC m s d p l rs ++ R)) : (d, MO.dK (saidK m.said)) ∈ M := h.mem_iff.mpr (by simp [moC])
theorem moR_p (h : M.Perm (moC m s d p l rs ++ R)) : (p, MO.lst (rs.map D.ref)) ∈ M := h.mem_iff.mpr (by simp [moC])
theorem moR_l (h : M.Perm (moC m s d p l rs ++ R)) : (l, MO.lst m.log) ∈ M := h.mem_iff.mpr (by simp [moC])
end
theorem vc_l_model (a : Ad) : ∀ ds M P EX, sp_l_model a ds M P EX → t_l_model a (startA N_l_model ds) M (retK P EX) := by
  intro ds M P EX ⟨hd, hM, hp⟩
  subst hd hM
  unfold t_l_model
  show (aRet _) [] _ _
  walk_at "go"
  intro d hd
  walk_at "go"
  intro p hp'
  walk_at "go"
  intro l hl
  walk_at "go"
  intro s hs
  refine ⟨_, Less.refl, hp s _ ⟨d, p, l, [], rfl, perm_mc fun x => ?_⟩⟩
  show mc x [(d, MO.dK []), (p, .lst []), (l, .lst []), (s, .dK (moD 0 d p l))] = _
  simp only [pilM, List.zip_nil_left, List.map_nil, saidK, moC, mc_cons, mc_nil]
  omega
theorem vc_l_look (a : Ad) : ∀ ds M P EX, sp_l_look a ds M P EX → t_l_look a (startA N_l_look ds) M (retK P EX) := by
  intro ds M P EX ⟨s, o, sx, S, N, t, m, j, Ms, Mm, hd, hx, hT, hok, hj, ⟨d, p, l, rs, hr, h1⟩, ⟨d2, p2, l2, rs2, hr2, h2⟩, hM0, hp⟩
  subst hd
  have hlen : m.said.length ≤ 12 := by have := hok.st.1; simpa using this
  obtain ⟨ps, ⟨py1, py2⟩, pw, p0, _⟩ := stnd_py hT hok.st
  have hn2 : m.next ≤ 100000 := by have := hok.nx.2; omega
  have hM : M.Perm (stC a (TalkD a sx N t) m s d p l rs ++ moC m o d2 p2 l2 rs2) := hM0.trans ((h1.append_right _).trans (h2.append_left _))
  have sw : ∀ {W A B : Mem}, W.Perm (A ++ B) → W.Perm (B ++ A) := fun h => h.trans List.perm_append_comm
  have hMo : M.Perm (moC m o d2 p2 l2 rs2 ++ stC a (TalkD a sx N t) m s d p l rs) := sw hM
  unfold t_l_look
  show (aSeq _ _) [some (.ref s), some (.ref o), none] _ _
  walk_at "go"
  refine dget_m (moR_s hMo) rfl mdSaid ?_
  walk_at "go"
  refine LenDA.mk (.mu (moR_d hMo)) ?_
  rw [show (saidK m.said).length = m.said.length by simp [saidK]]
  walk_at "go"
  refine inst_m (memR_s hM) (lkMeth (by decide +kernel)) ?_
  walk_at "go"
  refine callM_p hM ⟨s, TalkD a sx N t, m, rfl, ⟨d, p, l, rs, hr, List.Perm.refl _⟩, fun q Ms' M' hMs' hM' => ?_⟩
  obtain ⟨d, p, l, rs, hr, hMs'⟩ := hMs'
  have hW : (M' ++ moC m o d2 p2 l2 rs2).Perm (stC a (TalkD a sx N t) m s d p l rs ++ (moC m o d2 p2 l2 rs2 ++ [(q, MO.dK (saidK m.said))])) := perm_mc fun y => by
    have h1 := mc_perm hM' y
    have h2 := mc_perm hMs' y
    walk_at "pm"
  generalize M' ++ moC m o d2 p2 l2 rs2 = W at hW
  have hWo : W.Perm (moC m o d2 p2 l2 rs2 ++ ([(q, MO.dK (saidK m.said))] ++ stC a (TalkD a sx N t) m s d p l rs)) := (sw hW).trans (by rw [List.append_assoc])
  walk_at "go"
  refine reprD_said hlen hok.num hn2 py1 pw p0 (.mu (hW.mem_iff.mpr (by simp))) ?_
  walk_at "go"
  refine dget_m (moR_s hWo) rfl mdSaid ?_
  refine reprD_said hlen hok.num hn2 py1 pw p0 (.mu (moR_d hWo)) ?_
  walk_at "go"
  refine ite_r (fun h => absurd h (by simp)) (fun _ => ?_)
  walk_at "go"
  refine ⟨_, _, rfl, .mu (memR_s hW), callM_p hW ⟨s, TalkD a sx N t, m, rfl, ⟨d, p, l, rs, hr, List.Perm.refl _⟩, fun M2 hM2 => ⟨_, rfl, ⟨by omega, by omega⟩, ?_⟩⟩⟩
  obtain ⟨d, p, l, rs, hr, hM2⟩ := hM2
  have hV := hM2.append_right (moC m o d2 p2 l2 rs2 ++ [(q, MO.dK (saidK m.said))])
  generalize M2 ++ (moC m o d2 p2 l2 rs2 ++ [(q, MO.dK (saidK m.said))]) = V at hV
  walk_at "go"
  refine ⟨_, rfl, log2_small (by omega), ?_⟩
  walk_at "go"
  refine ⟨_, rfl, log2_small (by omega), ?_⟩
  walk_at "go"
  refine ite_r (fun h => absurd h (by simp)) (fun _ => ?_)
  walk_at "go"
  refine ⟨_, _, rfl, .mu (memR_s hV), callM_p hV ⟨s, TalkD a sx N t, m, rfl, ⟨d, p, l, rs, hr, List.Perm.refl _⟩, by omega, fun M3 hM3 => ⟨_, rfl, ?_⟩⟩⟩
  obtain ⟨d, p, l, rs, hr, hM3⟩ := hM3
  have hU := hM3.append_right (moC m o d2 p2 l2 rs2 ++ [(q, MO.dK (saidK m.said))])
  generalize M3 ++ (moC m o d2 p2 l2 rs2 ++ [(q, MO.dK (saidK m.said))]) = U at hU
  walk_at "go"
  refine ⟨.str, ?_⟩
  walk_at "go"
  refine StrA.int (log2_small (by omega)) ?_
  walk_at "go"
  have e12 : (10 : Nat) ^ 12 = 1000000000000 := by decide
  have hz : (Str.ofString (toString (m.said.length : Int))).length ≤ 13 := PyData.shown_int_le (by rw [e12]; omega)
  refine JoinA.mk (ss := ["Store(", Str.ofString (toString (m.said.length : Int)), " sayings)"]) .fr ?_ ?_
  · have e1 : (Str.ofString "Store(").length = 6 := by decide +kernel
    have e2 : (Str.ofString " sayings)").length = 9 := by decide +kernel
    have e3 : (Str.ofString "").length = 0 := by decide +kernel
    simp only [List.map_cons, List.map_nil, List.sum_cons, List.sum_nil, e1, e2, e3]
    omega
  walk_at "go"
  obtain ⟨M5, h5, h6⟩ := less_of (C := stC a (TalkD a sx N t) m s d p l rs ++ moC m o d2 p2 l2 rs2) (J := [(q, MO.dK (saidK m.said))]) (M := U) (by rw [List.append_assoc]; exact hU)
  have e : decide (reprS m.said.length = Txt.join "" ["Store(", Str.ofString (toString (m.said.length : Int)), " sayings)"]) = true := decide_eq_true rfl
  have := hp _ _ M5 ⟨d, p, l, rs, hr, List.Perm.refl _⟩ ⟨d2, p2, l2, rs2, hr2, List.Perm.refl _⟩ h6
  rw [← e] at this
  exact ⟨M5, h5, this⟩
theorem vc_l_copy (a : Ad) : ∀ ds M P EX, sp_l_copy a ds M P EX → t_l_copy a (startA N_l_copy ds) M (retK P EX) := by
  intro ds M P EX ⟨o, m, hd, ⟨d, p, l, rs, hr, hM⟩, hmk, hp⟩
  subst hd
  have hM0 : M.Perm (moC m o d p l rs ++ []) := by simpa using hM
  unfold t_l_copy
  show (aSeq _ _) [some (.ref o), none, none] _ _
  walk_at "go"
  refine dget_m (moR_s hM0) rfl mdMarks ?_
  refine ⟨p, rs.map D.ref, rfl, moR_p hM0, ?_⟩
  refine ⟨fun i acc M' => ∃ qs : List Addr, qs.length = i ∧ acc = qs.map D.ref ∧ M'.Perm (moC m o d p l rs ++ pilM qs (m.marks.take i)), ⟨[], rfl, rfl, by simpa [pilM] using hM⟩, fun i acc M' hj => ?_, fun i y acc M' hy hj => ?_, fun acc M' hj => ?_⟩
  · obtain ⟨qs, h1, h2, h3⟩ := hj
    exact moR_p h3
  · obtain ⟨qs, rfl, rfl, h3⟩ := hj
    rw [List.getElem?_map] at hy
    cases hq : rs[qs.length]? with
    | none => rw [hq] at hy; cases hy
    | some r =>
      rw [hq] at hy; cases hy
      obtain ⟨hi, hqe⟩ := List.getElem?_eq_some_iff.mp hq
      have hi2 : qs.length < m.marks.length := by omega
      have hm : (r, MO.dK (saidK m.marks[qs.length])) ∈ M' := h3.mem_iff.mpr (by
        refine List.mem_append_left _ ?_
        unfold moC pilM
        refine List.mem_cons_of_mem _ (List.mem_cons_of_mem _ (List.mem_cons_of_mem _ (List.mem_cons_of_mem _ ?_)))
        refine List.mem_map.mpr ⟨(r, m.marks[qs.length]), List.mem_of_getElem? (i := qs.length) (List.getElem?_zip_eq_some.mpr ⟨hq, List.getElem?_eq_getElem hi2⟩), rfl⟩)
      walk_at "go"
      refine DictMA.mk (.mu hm) fun q hq' => ?_
      refine ⟨by simp; omega, qs ++ [q], by simp, by simp, ?_⟩
      rw [List.take_succ_eq_append_getElem hi2, pilM_snoc (by simp; omega)]
      exact perm_mc fun y => by have h1 := mc_perm h3 y; walk_at "pm"
  · obtain ⟨qs, hqs, rfl, h3⟩ := hj
    have hqm : qs.length = m.marks.length := by rw [hqs]; simpa using hr
    rw [show (rs.map D.ref).length = m.marks.length by simp [hr], List.take_length] at h3
    walk_at "go"
    intro q2 hq2
    walk_at "go"
    have hW : (M' ++ [(q2, MO.lst (qs.map D.ref))]).Perm (moC m o d p l rs ++ (pilM qs m.marks ++ [(q2, MO.lst (qs.map D.ref))])) := perm_mc fun y => by have h1 := mc_perm h3 y; walk_at "pm"
    generalize M' ++ [(q2, MO.lst (qs.map D.ref))] = W at hW
    refine dget_m (moR_s hW) rfl mdSaid ?_
    refine DictMA.mk (.mu (moR_d hW)) fun q1 hq1 => ?_
    have hV : (W ++ [(q1, MO.dK (saidK m.said))]).Perm (moC m o d p l rs ++ (pilM qs m.marks ++ [(q2, MO.lst (qs.map D.ref)), (q1, MO.dK (saidK m.said))])) := perm_mc fun y => by have h1 := mc_perm hW y; walk_at "pm"
    show aCons _ _ _ (W ++ [(q1, MO.dK (saidK m.said))]) _ _
    generalize W ++ [(q1, MO.dK (saidK m.said))] = V at hV
    walk_at "go"
    refine dget_m (moR_s hV) rfl mdNext ?_
    walk_at "go"
    refine dget_m (moR_s hV) rfl mdLog ?_
    refine ListMA.seq (.mu (moR_l hV)) fun q4 hq4 => ?_
    walk_at "go"
    intro s2 hs2
    have hU : ((V ++ [(q4, MO.lst m.log)]) ++ [(s2, MO.dK (moD m.next q1 q2 q4))]).Perm (moC m o d p l rs ++ moC m s2 q1 q2 q4 qs) := perm_mc fun y => by have h1 := mc_perm hV y; walk_at "pm"
    exact ⟨_, Less.refl, hp s2 _ _ _ ⟨d, p, l, rs, hr, List.Perm.refl _⟩ ⟨q1, q2, q4, qs, hqm, List.Perm.refl _⟩ hU⟩
theorem iZipM_r {t : AA} {ρ : Rho} {M : Mem} {P : List D → (Mem → Prop) → Mem → Prop} {EX : XKA} (h : t ρ M (fun ds M1 => ∃ x y l r C1 C2, ds = [x, y] ∧ SqLC M1 x l C1 ∧ SqLC M1 y r C2 ∧ P (zipD l r) (fun M' => C1 M' ∧ C2 M') M1) EX) : iZipM t ρ M P EX := h
section
variable {a : Ad} {T : D}
theorem SMs.pm : ∀ {qs : List SM} {M M' : Mem}, M'.Perm M → SMs a T qs M → SMs a T qs M'
  | [], M, M', h, e => by
    have e' : M = [] := e
    subst e'
    exact List.perm_nil.mp h
  | q :: r, M, M', h, ⟨Ms, Mm, Mr, h1, h2, h3, h4⟩ => ⟨Ms, Mm, Mr, h1, h2, h3, h.trans h4⟩
theorem SMs.perm {qs qs' : List SM} (h : qs.Perm qs') : ∀ {M : Mem}, SMs a T qs M → SMs a T qs' M := by
  induction h with
  | nil => exact fun h => h
  | cons q _ ih =>
    intro M ⟨Ms, Mm, Mr, h1, h2, h3, h4⟩
    exact ⟨Ms, Mm, Mr, h1, h2, ih h3, h4⟩
  | swap q q' r =>
    intro M ⟨Ms, Mm, Mr, h1, h2, ⟨Ms', Mm', Mr', h1', h2', h3', h4'⟩, h4⟩
    exact ⟨Ms', Mm', Ms ++ (Mm ++ Mr'), h1', h2', ⟨Ms, Mm, Mr', h1, h2, h3', List.Perm.refl _⟩, perm_mc fun x => by
      have e1 := mc_perm h4 x
      have e2 := mc_perm h4' x
      simp only [mc_app] at *; omega⟩
  | trans _ _ ih1 ih2 => exact fun h => ih2 (ih1 h)
theorem sm_out {qs : List SM} {q : SM} (hq : q ∈ qs) {M : Mem} (h : SMs a T qs M) : ∃ Ms Mm R, StoreM a T q.m q.s Ms ∧ ModM q.m q.o Mm ∧ M.Perm (Ms ++ (Mm ++ R)) ∧
    ∀ Ms' Mm' M', StoreM a T q.m q.s Ms' → ModM q.m q.o Mm' → M'.Perm (Ms' ++ (Mm' ++ R)) → SMs a T qs M' := by
  obtain ⟨s, t, rfl⟩ := List.append_of_mem hq
  have hp : (s ++ q :: t).Perm (q :: (s ++ t)) := List.perm_middle
  obtain ⟨Ms, Mm, R, h1, h2, h3, h4⟩ := SMs.perm hp h
  exact ⟨Ms, Mm, R, h1, h2, h4, fun Ms' Mm' M' g1 g2 g3 => SMs.perm hp.symm ⟨Ms', Mm', R, g1, g2, h3, g3⟩⟩
theorem perm_erase {α : Type} : ∀ {l : List α} {i : Nat} {x : α}, l[i]? = some x → l.Perm (x :: l.eraseIdx i)
  | [], _, _, h => by simp at h
  | y :: l, 0, x, h => by
    have : y = x := by simpa using h
    rw [this]; exact List.Perm.refl _
  | y :: l, i + 1, x, h => (List.Perm.cons y (perm_erase (l := l) (i := i) (by simpa using h))).trans (List.Perm.swap _ _ _)
theorem perm_two {α : Type} {l : List α} {i k : Nat} {x y : α} (hi : l[i]? = some x) (hk : l[k]? = some y) (hne : i ≠ k) : ∃ r, l.Perm (x :: y :: r) := by
  have p1 := perm_erase hi
  have m2 : y ∈ l.eraseIdx i := List.mem_eraseIdx_iff_getElem?.mpr ⟨k, fun e => hne e.symm, hk⟩
  obtain ⟨s, t, e⟩ := List.append_of_mem m2
  refine ⟨s ++ t, p1.trans (List.Perm.cons _ ?_)⟩
  rw [e]; exact List.perm_middle
theorem sm_two {qs : List SM} {q1 q2 : SM} {i k : Nat} (hi : qs[i]? = some q1) (hk : qs[k]? = some q2) (hne : i ≠ k) {M : Mem} (h : SMs a T qs M) : ∃ Ms Ms2 R, StoreM a T q1.m q1.s Ms ∧ StoreM a T q2.m q2.s Ms2 ∧ M.Perm ((Ms ++ Ms2) ++ R) ∧
    ∀ Ms' Ms2' M', StoreM a T q1.m q1.s Ms' → StoreM a T q2.m q2.s Ms2' → M'.Perm ((Ms' ++ Ms2') ++ R) → SMs a T qs M' := by
  obtain ⟨r, hp⟩ := perm_two hi hk hne
  obtain ⟨Ms, Mm, R, h1, h2, ⟨Ms2, Mm2, R2, h1', h2', h3', h4'⟩, h4⟩ := SMs.perm hp h
  refine ⟨Ms, Ms2, Mm ++ (Mm2 ++ R2), h1, h1', perm_mc fun x => by
    have e1 := mc_perm h4 x
    have e2 := mc_perm h4' x
    simp only [mc_app] at *; omega, fun Ms' Ms2' M' g1 g2 g3 => SMs.perm hp.symm ⟨Ms', Mm, Ms2' ++ (Mm2 ++ R2), g1, h2, ⟨Ms2', Mm2, R2, g2, h2', h3', List.Perm.refl _⟩, perm_mc fun x => by
    have e1 := mc_perm g3 x
    simp only [mc_app] at *; omega⟩⟩
end
theorem StoreM.ins {a : Ad} {T : D} {m : Mo} {s : Addr} {M : Mem} (h : StoreM a T m s M) : ∃ d p l, (s, MO.ins a.Store (stF T d m.next p l)) ∈ M := by
  obtain ⟨d, p, l, rs, _, h⟩ := h
  exact ⟨d, p, l, mem_s h⟩
theorem ModM.at_ {m : Mo} {o : Addr} {M : Mem} (h : ModM m o M) : ∃ d p l, (o, MO.dK (moD m.next d p l)) ∈ M ∧ (d, MO.dK (saidK m.said)) ∈ M ∧ (l, MO.lst m.log) ∈ M ∧ ∃ rs : List Addr, rs.length = m.marks.length ∧ (p, MO.lst (rs.map D.ref)) ∈ M := by
  obtain ⟨d, p, l, rs, hr, h⟩ := h
  have h' : M.Perm (moC m o d p l rs ++ []) := by simpa using h
  exact ⟨d, p, l, moR_s h', moR_d h', moR_l h', rs, hr, moR_p h'⟩
/-- what an own == of two stores tells, memory kept -/
theorem eq_own {a : Ad} {sx : D} {S N : List Str} {t : Int} {qs : List SM} {i k : Nat} {q1 q2 : SM} {B Mq M : Mem} {P : AK} {EX : XKA} {f : SM → List PyData} (hi : qs[i]? = some q1) (hk : qs[k]? = some q2) (hx : Tp sx S) (hT : Tongue S N)
    (hf : ∀ q ∈ qs, PyL (q.m.said.map (·.2)) (f q) ∧ q.m.said.length ≤ 1000) (h : SMs a (TalkD a sx N t) qs Mq) (hM : M.Perm (B ++ Mq))
    (post : ∀ Mq' M', SMs a (TalkD a sx N t) qs Mq' → M'.Perm (B ++ Mq') → P (.bl (PyData.eqv (.tuple (f q1)) (.tuple (f q2)))) M') : CallM (sp_Store_eq a) [.ref q1.s, .ref q2.s] M P EX := by
  obtain ⟨s1, s2⟩ := tongue_small hT
  have m1 := List.mem_of_getElem? hi
  have m2 := List.mem_of_getElem? hk
  by_cases hne : i = k
  · subst hne
    rw [hi] at hk; cases hk
    obtain ⟨Ms, Mm, R, g1, g2, g3, g4⟩ := sm_out m1 h
    refine callM_p (C := Ms) (R := Mm ++ (R ++ B)) (perm_mc fun x => by
      have e1 := mc_perm hM x
      have e2 := mc_perm g3 x
      simp only [mc_app] at *; omega) ⟨q1.s, sx, S, N, t, q1.m, f q1, hx, s1, s2, (hf q1 m1).2, (hf q1 m1).1, Or.inl ⟨rfl, g1, fun M' hM' => ?_⟩⟩
    refine post (M' ++ (Mm ++ R)) _ (g4 M' Mm _ hM' g2 (List.Perm.refl _)) (perm_mc fun x => by simp only [mc_app]; omega)
  · obtain ⟨Ms, Ms2, R, g1, g2, g3, g4⟩ := sm_two hi hk hne h
    refine callM_p (C := Ms ++ Ms2) (R := R ++ B) (perm_mc fun x => by
      have e1 := mc_perm hM x
      have e2 := mc_perm g3 x
      simp only [mc_app] at *; omega) ⟨q1.s, sx, S, N, t, q1.m, f q1, hx, s1, s2, (hf q1 m1).2, (hf q1 m1).1, Or.inr (Or.inl ⟨q2.s, sx, S, N, t, q2.m, f q2, Ms, Ms2, rfl, hx, s1, s2, (hf q2 m2).2, (hf q2 m2).1, g1, g2, List.Perm.refl _, fun Ms' Ms2' M' k1 k2 k3 => ?_⟩)⟩
    rw [decide_eq_true (⟨rfl, rfl, rfl⟩ : S = S ∧ N = N ∧ t = t), Bool.true_and]
    refine post (M' ++ R) _ (g4 Ms' Ms2' _ k1 k2 (k3.append_right _)) (perm_mc fun x => by simp only [mc_app]; omega)
theorem st_call {a : Ad} {T : D} {qs : List SM} {q : SM} {B Mq M : Mem} (hq : q ∈ qs) (h : SMs a T qs Mq) (hM : M.Perm (B ++ Mq)) : ∃ Ms Mm R, StoreM a T q.m q.s Ms ∧ ModM q.m q.o Mm ∧ M.Perm (Ms ++ (Mm ++ R)) ∧
    ∀ (Ms' Mm' M' : Mem), StoreM a T q.m q.s Ms' → ModM q.m q.o Mm' → M'.Perm (Ms' ++ (Mm' ++ R)) → ∃ Mq' : Mem, SMs a T qs Mq' ∧ M'.Perm (B ++ Mq') := by
  obtain ⟨Ms, Mm, R, g1, g2, g3, g4⟩ := sm_out hq h
  refine ⟨Ms, Mm, R ++ B, g1, g2, perm_mc fun x => by
    have e1 := mc_perm hM x
    have e2 := mc_perm g3 x
    simp only [mc_app] at *; omega, fun Ms' Mm' M' k1 k2 k3 => ⟨Ms' ++ (Mm' ++ R), g4 Ms' Mm' _ k1 k2 (List.Perm.refl _), perm_mc fun x => by
    have e1 := mc_perm k3 x
    simp only [mc_app] at *; omega⟩⟩
theorem vc_l_alike (a : Ad) : ∀ ds M P EX, sp_l_alike a ds M P EX → t_l_alike a (startA N_l_alike ds) M (retK P EX) := by
  intro ds M P EX ⟨x, y, sx, S, N, t, qs, j, Mq, hd, hx, hT, hj, hq3, hok, hS, hM, hp⟩
  subst hd
  have hfe : ∃ f : SM → List PyData, ∀ q ∈ qs, PyL (q.m.said.map (·.2)) (f q) ∧ q.m.said.length ≤ 1000 := by
    have h : ∀ q : SM, ∃ ps, q ∈ qs → PyL (q.m.said.map (·.2)) ps := fun q => by
      by_cases hq : q ∈ qs
      · obtain ⟨ps, h, _⟩ := stnd_py hT (hok q hq).st
        exact ⟨ps, fun _ => h⟩
      · exact ⟨[], fun z => absurd z hq⟩
    exact ⟨fun q => (h q).choose, fun q hq => ⟨(h q).choose_spec hq, by have := (hok q hq).st.1; simp at this; omega⟩⟩
  obtain ⟨f, hf⟩ := hfe
  obtain ⟨sm1, sm2⟩ := tongue_small hT
  unfold t_l_alike
  show (aSeq _ _) [some (.ref x), some (.ref y), none, none, none, none, none] _ _
  have cx : ∀ {M' Mq' : Mem}, M'.Perm ([(x, MO.lst (qs.map fun q => D.ref q.s)), (y, MO.lst (qs.map fun q => D.ref q.o))] ++ Mq') → (x, MO.lst (qs.map fun q => D.ref q.s)) ∈ M' ∧ (y, MO.lst (qs.map fun q => D.ref q.o)) ∈ M' := fun h => ⟨h.mem_iff.mpr (by simp), h.mem_iff.mpr (by simp)⟩
  walk_at "go"
  refine iZipM_r ?_
  walk_at "go"
  refine ⟨.ref x, .ref y, _, _, _, _, rfl, .mu (cx hM).1, .mu (cx hM).2, ?_⟩
  refine ⟨fun i ρ' M' => ∃ (x2 x3 x4 x5 x6 : Option D), ρ' = [some (.ref x), some (.ref y), x2, x3, x4, x5, x6] ∧ ∃ Mq, SMs a (TalkD a sx N t) qs Mq ∧ M'.Perm ([(x, MO.lst (qs.map fun q => D.ref q.s)), (y, MO.lst (qs.map fun q => D.ref q.o))] ++ Mq), ⟨none, none, none, none, none, rfl, Mq, hS, hM⟩, fun i ρ' M' hj => ?_, fun i d ρ' M' hd hj => ?_, fun ρ' M' hj => ?_⟩
  · obtain ⟨_, _, _, _, _, _, Mq, _, h⟩ := hj
    exact cx h
  · obtain ⟨x2, x3, x4, x5, x6, rfl, Mq, hS, hM⟩ := hj
    obtain ⟨u1, u2, e1, e2, rfl⟩ := zipD_get hd
    rw [List.getElem?_map] at e1 e2
    cases hq : qs[i]? with
    | none => rw [hq] at e1; cases e1
    | some q =>
      rw [hq] at e1 e2
      cases e1; cases e2
      have mq := List.mem_of_getElem? hq
      have okq := hok q mq
      refine gTupA_r rfl ?_
      walk_at "go"
      refine iZipM_r ?_
      walk_at "go"
      refine ⟨.ref x, .ref y, _, _, _, _, rfl, .mu (cx hM).1, .mu (cx hM).2, ?_⟩
      refine ⟨fun k ρ' M' => ∃ (x4 x5 x6 : Option D), ρ' = [some (.ref x), some (.ref y), some (.ref q.s), some (.ref q.o), x4, x5, x6] ∧ ∃ Mq, SMs a (TalkD a sx N t) qs Mq ∧ M'.Perm ([(x, MO.lst (qs.map fun q => D.ref q.s)), (y, MO.lst (qs.map fun q => D.ref q.o))] ++ Mq), ⟨x4, x5, x6, rfl, Mq, hS, hM⟩, fun k ρ' M' hj => ?_, fun k d ρ' M' hd hj => ?_, fun ρ' M' hj => ?_⟩
      · obtain ⟨_, _, _, _, Mq, _, h⟩ := hj
        exact cx h
      · obtain ⟨x4, x5, x6, rfl, Mq, hS, hM⟩ := hj
        obtain ⟨u1, u2, e1, e2, rfl⟩ := zipD_get hd
        rw [List.getElem?_map] at e1 e2
        cases hq2 : qs[k]? with
        | none => rw [hq2] at e1; cases e1
        | some q2 =>
          rw [hq2] at e1 e2
          cases e1; cases e2
          have mq2 := List.mem_of_getElem? hq2
          obtain ⟨Ms, Mm, R, g1, g2, g3, g4⟩ := sm_out mq hS
          obtain ⟨Ms2, Mm2, R2, k1, k2, k3, k4⟩ := sm_out mq2 hS
          have up : ∀ z ∈ Mq, z ∈ M' := fun z hz => hM.mem_iff.mpr (List.mem_append_right _ hz)
          have upS : ∀ z ∈ Ms, z ∈ M' := fun z hz => up z (g3.mem_iff.mpr (List.mem_append_left _ hz))
          have upM : ∀ z ∈ Mm, z ∈ M' := fun z hz => up z (g3.mem_iff.mpr (List.mem_append_right _ (List.mem_append_left _ hz)))
          have upS2 : ∀ z ∈ Ms2, z ∈ M' := fun z hz => up z (k3.mem_iff.mpr (List.mem_append_left _ hz))
          have upM2 : ∀ z ∈ Mm2, z ∈ M' := fun z hz => up z (k3.mem_iff.mpr (List.mem_append_right _ (List.mem_append_left _ hz)))
          obtain ⟨d, p, l, n1, n2, n3, _⟩ := g2.at_
          obtain ⟨d2, p2, l2, w1, w2, w3, _⟩ := k2.at_
          refine gTupA_r rfl ?_
          walk_at "go"
          refine dget_m (upM _ n1) rfl mdSaid ?_
          refine ⟨_, .mu (upM _ n2), ?_⟩
          walk_at "go"
          refine dget_m (upM2 _ w1) rfl mdSaid ?_
          refine ⟨_, .mu (upM2 _ w2), ?_⟩
          rw [saidK_vals, saidK_vals]
          have sh : ∀ q ∈ qs, SeqAt.shaped (.list (f q)) = true := fun q hq => by
            have := (hf q hq).1.2
            simpa [SeqAt.shaped, PyData.canLay0, PyData.depth] using this
          refine EqA.py (.lst (hf q mq).1.1) (.lst (hf q2 mq2).1.1) (sh q mq) (sh q2 mq2) ?_
          have ee : PyData.eqv (.list (f q)) (.list (f q2)) = PyData.eqv (.tuple (f q)) (.tuple (f q2)) := by simp [PyData.eqv]
          rw [ee]
          walk_at "go"
          obtain ⟨da, pa, la, i1⟩ := g1.ins
          obtain ⟨db, pb, lb, i2⟩ := k1.ins
          refine ⟨⟨_, .mu (upS _ i1)⟩, .own (.mu (upS2 _ i2)), eq_own hq hq2 hx hT hf hS hM fun Mq' M'' hS' hM'' => ?_⟩
          refine ⟨_, rfl, ?_⟩
          walk_at "go"
          refine ⟨_, rfl, ?_⟩
          walk_at "go"
          refine ⟨_, rfl, ?_⟩
          walk_at "go"
          refine ite_r (fun h => absurd h (by simp)) (fun _ => ?_)
          walk_at "go"
          exact ⟨_, _, _, rfl, Mq', hS', hM''⟩
      · obtain ⟨x4, x5, x6, rfl, Mq, hS, hM⟩ := hj
        obtain ⟨Ms, Mm, R, g1, g2, g3, g4⟩ := st_call mq hS hM
        have hlen := (hf q mq).2
        obtain ⟨da, pa, la, i1⟩ := g1.ins
        walk_at "go"
        refine ⟨_, _, rfl, .mu (g3.mem_iff.mpr (List.mem_append_left _ i1)), callM_p g3 ⟨q.s, TalkD a sx N t, q.m, rfl, g1, hlen, fun M1 hM1 => ⟨_, rfl, ?_⟩⟩⟩
        obtain ⟨Mq1, hS1, hP1⟩ := g4 M1 Mm _ hM1 g2 (List.Perm.refl _)
        generalize M1 ++ (Mm ++ R) = W1 at hP1
        clear g1 g2 g3 g4 i1
        obtain ⟨Ms, Mm, R, g1, g2, g3, g4⟩ := st_call mq hS1 hP1
        obtain ⟨da, pa, la, i1⟩ := g1.ins
        refine ⟨⟨_, .mu (g3.mem_iff.mpr (List.mem_append_left _ i1))⟩, .str, callM_p g3 ⟨q.s, sx, S, N, t, q.m, f q, hx, sm1, sm2, hlen, (hf q mq).1, Or.inr (Or.inr (Or.inl ⟨_, rfl, Or.inr ⟨_, rfl⟩, g1, fun M1 hM1 => ?_⟩))⟩⟩
        obtain ⟨Mq1, hS1, hP1⟩ := g4 M1 Mm _ hM1 g2 (List.Perm.refl _)
        generalize M1 ++ (Mm ++ R) = W1 at hP1
        clear g1 g2 g3 g4 i1
        obtain ⟨Ms, Mm, R, g1, g2, g3, g4⟩ := st_call mq hS1 hP1
        obtain ⟨da, pa, la, i1⟩ := g1.ins
        obtain ⟨d2, p2, l2, rs2, hr2, hmm⟩ := g2
        have hmm' : Mm.Perm (moC q.m q.o d2 p2 l2 rs2 ++ []) := by simpa using hmm
        refine ⟨false, rfl, ?_⟩
        walk_at "go"
        refine dget_m (g3.mem_iff.mpr (List.mem_append_right _ (List.mem_append_left _ (moR_s hmm')))) rfl mdSaid ?_
        refine ⟨⟨_, .mu (g3.mem_iff.mpr (List.mem_append_left _ i1))⟩, .dic (.mu (g3.mem_iff.mpr (List.mem_append_right _ (List.mem_append_left _ (moR_d hmm'))))), callM_p (C := Ms ++ [(d2, MO.dK (saidK q.m.said))]) (R := (q.o, MO.dK (moD q.m.next d2 p2 l2)) :: (p2, MO.lst (rs2.map D.ref)) :: (l2, MO.lst q.m.log) :: (pilM rs2 q.m.marks ++ R)) (perm_mc fun y => by
          have e1 := mc_perm g3 y
          have e2 := mc_perm hmm y
          walk_at "pm") ⟨q.s, sx, S, N, t, q.m, f q, hx, sm1, sm2, hlen, (hf q mq).1, Or.inr (Or.inr (Or.inr ⟨d2, _, Ms, rfl, g1, List.Perm.refl _, fun Ms' M1 hM1 hM2 => ?_⟩))⟩⟩
        obtain ⟨Mq1, hS1, hP1⟩ := g4 Ms' (moC q.m q.o d2 p2 l2 rs2) (M1 ++ ((q.o, MO.dK (moD q.m.next d2 p2 l2)) :: (p2, MO.lst (rs2.map D.ref)) :: (l2, MO.lst q.m.log) :: (pilM rs2 q.m.marks ++ R))) hM1 ⟨d2, p2, l2, rs2, hr2, List.Perm.refl _⟩ (perm_mc fun y => by
          have e1 := mc_perm hM2 y
          walk_at "pm")
        generalize M1 ++ ((q.o, MO.dK (moD q.m.next d2 p2 l2)) :: (p2, MO.lst (rs2.map D.ref)) :: (l2, MO.lst q.m.log) :: (pilM rs2 q.m.marks ++ R)) = W1 at hP1
        clear g1 g3 g4 i1 hmm hmm' hr2
        obtain ⟨Ms, Mm, R, g1, g2, g3, g4⟩ := st_call mq hS1 hP1
        obtain ⟨da, pa, la, i1⟩ := g1.ins
        refine ⟨false, rfl, ?_⟩
        walk_at "go"
        refine ⟨⟨_, .mu (g3.mem_iff.mpr (List.mem_append_left _ i1))⟩, .int, callM_p g3 ⟨q.s, sx, S, N, t, q.m, f q, hx, sm1, sm2, hlen, (hf q mq).1, Or.inr (Or.inr (Or.inl ⟨_, rfl, Or.inl ⟨_, rfl⟩, g1, fun M1 hM1 => ?_⟩))⟩⟩
        obtain ⟨Mq1, hS1, hP1⟩ := g4 M1 Mm _ hM1 g2 (List.Perm.refl _)
        generalize M1 ++ (Mm ++ R) = W1 at hP1
        clear g1 g2 g3 g4 i1
        obtain ⟨Ms, Mm, R, g1, g2, g3, g4⟩ := st_call mq hS1 hP1
        refine ⟨false, rfl, ?_⟩
        walk_at "go"
        refine callM_p (C := Ms ++ Mm) (R := R) (by rw [List.append_assoc]; exact g3) ⟨q.s, q.o, sx, S, N, t, q.m, j, Ms, Mm, rfl, hx, hT, okq, hj, g1, g2, List.Perm.refl _, fun Ms' Mm' M1 k1 k2 k3 => ?_⟩
        obtain ⟨Mq1, hS1, hP1⟩ := g4 Ms' Mm' (M1 ++ R) k1 k2 (by rw [← List.append_assoc]; exact k3.append_right _)
        generalize M1 ++ R = W1 at hP1
        clear g1 g2 g3 g4
        obtain ⟨Ms, Mm, R, g1, g2, g3, g4⟩ := st_call mq hS1 hP1
        obtain ⟨da, pa, la, i1⟩ := g1.ins
        walk_at "go"
        refine inst_m (g3.mem_iff.mpr (List.mem_append_left _ i1)) (lkMeth (by decide +kernel)) ?_
        have hll : q.m.log.length ≤ 2000 := by have := okq.ll; omega
        walk_at "go"
        refine callM_p g3 ⟨q.s, TalkD a sx N t, q.m, rfl, g1, by omega, fun M1 hM1 => ?_⟩
        obtain ⟨Mq1, hS1, hP1⟩ := g4 M1 Mm _ hM1 g2 (List.Perm.refl _)
        generalize M1 ++ (Mm ++ R) = W1 at hP1
        clear g1 g2 g3 g4 i1
        obtain ⟨Ms, Mm, R, g1, g2, g3, g4⟩ := st_call mq hS1 hP1
        obtain ⟨d2, p2, l2, n1, n2, n3, _⟩ := g2.at_
        have upM : ∀ z ∈ Mm, z ∈ W1 := fun z hz => g3.mem_iff.mpr (List.mem_append_right _ (List.mem_append_left _ hz))
        obtain ⟨lp, lp1, lp2⟩ := log_shw okq.lg (by omega)
        walk_at "go"
        refine repr_r lp2 (by decide) (by have : (2 : Nat) ^ 20 = 1048576 := by decide
                                          omega) (.fr lp1) (Or.inl rfl) ?_
        walk_at "go"
        refine dget_m (upM _ n1) rfl mdLog ?_
        refine TupleA.seq (.mu (upM _ n3)) ?_
        walk_at "go"
        refine repr_r lp2 (by decide) (by have : (2 : Nat) ^ 20 = 1048576 := by decide
                                          omega) (.fr lp1) (Or.inl rfl) ?_
        walk_at "go"
        refine ite_r (fun h => absurd h (by simp)) (fun _ => ?_)
        walk_at "go"
        exact ⟨_, _, _, _, _, rfl, Mq1, hS1, hP1⟩
  · obtain ⟨x2, x3, x4, x5, x6, rfl, Mq, hS, hM⟩ := hj
    walk_at "go"
    exact ⟨_, Less.refl, hp _ _ hS hM⟩
theorem vc_l_claims (a : Ad) : ∀ ds M P EX, sp_l_claims a ds M P EX → t_l_claims a (startA N_l_claims ds) M (retK P EX) := by
  intro ds M P EX ⟨p, l, B, S, N, ys, n, hd, hM, hl, hB, hT, hst, hn, hp⟩
  subst hd hM
  unfold t_l_claims
  show (aSeq _ _) [some (.ref p), some (tonD S N), some (.lst ys), some (.int n), none, none, none, none] _ _
  walk_at "go"
  intro q hq
  walk_at "go"
  refine ⟨fun i ρ' M' => ∃ (x5 x6 x7 : Option D) (l' : List D) (zs : List D), ρ' = [some (.ref p), some (tonD S N), some (.lst ys), some (.int n), some (.ref q), x5, x6, x7] ∧ M' = [(p, .lst l'), (q, .lst zs)] ∧ zs.length ≤ i ∧ Stnd S N (ys ++ zs) ∧ Pool (B + 1770 * i) l', ⟨none, none, none, l, [], rfl, rfl, by simp, by simpa using hst, by simpa using hl⟩, fun i d ρ' M' hx hj => ?_, fun ρ' M' hj => ?_⟩
  · obtain ⟨x5, x6, x7, l', zs, rfl, rfl, hz, hsz, hl'⟩ := hj
    have hi := (rngD_get hx).1
    walk_at "go"
    refine cm1 ⟨p, l', B + 1770 * i, 4, rfl, rfl, hl', by omega, by omega, by omega, fun r l2 r0 r1 hl2 => ?_⟩
    obtain ⟨k, hk⟩ : ∃ k : Nat, 1 + r = k := ⟨(1 + r).toNat, by omega⟩
    have hb : (1 : Int) ≤ 2 ^ k ∧ (2 : Int) ^ k ≤ 16 := by
      rcases (show k = 1 ∨ k = 2 ∨ k = 3 ∨ k = 4 by omega) with rfl | rfl | rfl | rfl <;> decide
    walk_at "go"
    refine cm1 ⟨p, l2, B + 1770 * i + 1, S, N, k, by rw [hk], rfl, hl2, by omega, hT, by omega, by omega, by omega, fun c l3 hc hl3 => ?_⟩
    have hc4 := hc.le (show k ≤ 4 by omega)
    walk_at "go"
    refine AddA.lst .fr (.mu (.tail _ (.head _))) (by have := hsz.1; simp at this ⊢; omega) ?_
    walk_at "go"
    refine AddA.lst .fr .fr (by have := hsz.1; simp at this ⊢; omega) ?_
    have hl3' : Pool (B + 1770 * (i + 1 : Nat)) l3 := Pool_mono hl3 (by push_cast; omega) (by push_cast; omega)
    have no : ∃ (x5 x6 x7 : Option D) (l' : List D) (zs' : List D), [some (.ref p), some (tonD S N), some (.lst ys), some (.int n), some (.ref q), some d, some c, some (.lst (ys ++ zs ++ [c]))] = [some (.ref p), some (tonD S N), some (.lst ys), some (.int n), some (.ref q), x5, x6, x7] ∧ [(p, MO.lst l3), (q, .lst zs)] = [(p, .lst l'), (q, .lst zs')] ∧ zs'.length ≤ i + 1 ∧ Stnd S N (ys ++ zs') ∧ Pool (B + 1770 * (i + 1 : Nat)) l' :=
      ⟨_, _, _, l3, zs, rfl, rfl, by omega, hsz, hl3'⟩
    have hall : ∀ d ∈ ys ++ zs ++ [c], SayR S N 4 d := fun d hd => by
      rcases List.mem_append.mp hd with z | z
      · exact hsz.2.1 d z
      · rw [List.mem_singleton.mp z]; exact hc4
    walk_at "go"
    refine ite_r (fun h => ?_) (fun h => ?_)
    · walk_at "go"
      have h12 : (ys ++ zs ++ [c]).length ≤ 12 := by simp at h ⊢; omega
      refine cm0 ⟨ys ++ zs ++ [c], rfl, rfl, by omega, fun d hd => cnB_mono (say_cn (hall d hd)) (by omega), ?_⟩
      walk_at "go"
      refine ite_r (fun h2 => ?_) (fun h2 => ?_)
      · walk_at "go"
        refine ⟨.mlst (l := zs) (by simp), ?_⟩
        walk_at "go"
        refine AppA.mk (.there .here) (by omega) ?_
        walk_at "go"
        have h32 : cntL (ys ++ zs ++ [c]) ≤ 32 := by simpa using h2
        exact ⟨_, _, _, l3, zs ++ [c], rfl, rfl, by simp; omega, by rw [← List.append_assoc]; exact ⟨h12, hall, h32⟩, hl3'⟩
      · walk_at "go"
        exact no
    · walk_at "go"
      exact no
  · obtain ⟨x5, x6, x7, l', zs, rfl, rfl, hz, hsz, hl'⟩ := hj
    rw [rngD_length] at hz hl'
    walk_at "go"
    exact hp zs l' (by simpa using hz) hsz (Pool_mono hl' (by simp; omega) (by omega))
theorem cntL_cons {d : D} {l : List D} : cntL (d :: l) = (cnt d).1 * cntL l := by
  have key : ∀ (l : List Int) (c : Int), l.foldl (· * ·) c = c * l.foldl (· * ·) 1 := by
    intro l
    induction l with
    | nil => intro c; simp
    | cons x r ih => intro c; rw [List.foldl_cons, List.foldl_cons, ih (c * x), ih (1 * x), Int.one_mul, Int.mul_assoc]
  unfold cntL
  rw [List.map_cons, List.foldl_cons, key, Int.one_mul]
theorem cntL_sub {l r : List D} (h : l.Sublist r) (hr : ∀ d ∈ r, cnB 6 d = true) : cntL l ≤ cntL r := by
  induction h with
  | slnil => exact Int.le_refl _
  | @cons l r d h ih =>
    have h1 := ih fun x hx => hr x (List.mem_cons_of_mem _ hx)
    have hd := (cnt_small (hr d List.mem_cons_self) (by omega)).1.1
    have hp := cntL_pos fun x hx => hr x (List.mem_cons_of_mem _ hx)
    rw [cntL_cons]
    have := Int.mul_le_mul_of_nonneg_right hd (show (0 : Int) ≤ cntL r by omega)
    omega
  | @cons_cons l r d h ih =>
    have h1 := ih fun x hx => hr x (List.mem_cons_of_mem _ hx)
    have hd := (cnt_small (hr d List.mem_cons_self) (by omega)).1.1
    rw [cntL_cons, cntL_cons]
    exact Int.mul_le_mul_of_nonneg_left h1 (by omega)
theorem Stnd.sub {S N : List Str} {l r : List D} (h : l.Sublist r) (hr : Stnd S N r) : Stnd S N l :=
  ⟨Nat.le_trans h.length_le hr.1, fun d hd => hr.2.1 d (h.subset hd), Int.le_trans (cntL_sub h fun d hd => cnB_mono (say_cn (hr.2.1 d hd)) (by omega)) hr.2.2⟩
theorem logW_two {w : Str} (hw : w = "say" ∨ w = "say_all" ∨ w = "drop" ∨ w = "mark" ∨ w = "back") : ∀ d ∈ twoW w, logW d := by
  intro d hd
  simp only [twoW, List.mem_cons, List.not_mem_nil, or_false] at hd
  rcases hd with rfl | rfl
  · exact ⟨_, _, rfl, Or.inl rfl, hw⟩
  · exact ⟨_, _, rfl, Or.inr rfl, hw⟩
theorem NumB.up {n n' : Int} {l : List (Int × D)} (h : NumB n l) (hn : n ≤ n') : NumB n' l := ⟨h.1, fun q hq => by have := h.2 q hq; omega⟩
theorem NumB.ok {m : Mo} (h : NumB m.next m.said) : NumOk m := ⟨h.1, fun q hq => (h.2 q hq).2⟩
theorem NumB.say {m : Mo} (h : NumB m.next m.said) (h0 : 0 ≤ m.next) (d : D) : NumB (m.say d).next (m.say d).said :=
  ⟨(NumOk.say h.ok d).1, fun q hq => by
    have hq' : q ∈ m.said ++ [(m.next, d)] := hq
    show 0 ≤ q.1 ∧ q.1 < m.next + 1
    rcases List.mem_append.mp hq' with z | z
    · have := h.2 q z; omega
    · simp at z; rw [z]; dsimp only; omega⟩
theorem NumB.sayL : ∀ {ys : List D} {m : Mo}, NumB m.next m.said → 0 ≤ m.next → NumB (m.sayL ys).next (m.sayL ys).said
  | [], _, h, _ => h
  | y :: ys, m, h, h0 => NumB.sayL (ys := ys) (h.say h0 y) (by show 0 ≤ m.next + 1; omega)
section
variable {S N : List Str} {j : Nat} {m : Mo}
theorem MdOk.back {ms : List (List (Int × D))} {z : List (Int × D)} (h : MdOk S N j m) (e : m.marks = ms ++ [z]) : MdOk S N (j + 1) (({ m with said := z, marks := ms } : Mo).lg "back") := by
  have hz := h.pl z (by rw [e]; simp)
  have l2 := h.ll
  have l3 := h.ml
  refine ⟨hz.1, hz.2, fun y hy => h.pl y (by rw [e]; exact List.mem_append_left _ hy), fun d hd => ?_, ?_, ?_, ?_⟩
  · rcases List.mem_append.mp hd with q | q
    · exact h.lg d q
    · exact logW_two (Or.inr (Or.inr (Or.inr (Or.inr rfl)))) d q
  · show (m.log ++ twoW "back").length ≤ _
    simp [twoW]; omega
  · rw [e] at l3
    show ms.length ≤ _
    simp at l3; omega
  · have := h.nx
    show 0 ≤ m.next ∧ m.next ≤ _
    push_cast; omega
theorem MdOk.mark (h : MdOk S N j m) : MdOk S N (j + 1) (m.mark.lg "mark") := by
  have l2 := h.ll
  have l3 := h.ml
  refine ⟨h.num, h.st, fun y hy => ?_, fun d hd => ?_, ?_, ?_, ?_⟩
  · have hy' : y ∈ m.marks ++ [m.said] := hy
    rcases List.mem_append.mp hy' with q | q
    · exact h.pl y q
    · rw [List.mem_singleton.mp q]; exact ⟨h.num, h.st⟩
  · rcases List.mem_append.mp hd with q | q
    · exact h.lg d q
    · exact logW_two (Or.inr (Or.inr (Or.inr (Or.inl rfl)))) d q
  · show (m.log ++ twoW "mark").length ≤ _
    simp [twoW]; omega
  · show (m.marks ++ [m.said]).length ≤ _
    simp; omega
  · have := h.nx
    show 0 ≤ m.next ∧ m.next ≤ _
    push_cast; omega
theorem MdOk.drop (h : MdOk S N j m) (n : Int) : MdOk S N (j + 1) ((m.drop n).lg "drop") := by
  have l2 := h.ll
  have l3 := h.ml
  have hs : (m.said.filter fun q => decide (q.1 ≠ n)).Sublist m.said := List.filter_sublist
  refine ⟨⟨List.Pairwise.sublist (hs.map _) h.num.1, fun q hq => h.num.2 q (hs.subset hq)⟩, Stnd.sub (hs.map _) h.st, h.pl, fun d hd => ?_, ?_, ?_, ?_⟩
  · rcases List.mem_append.mp hd with q | q
    · exact h.lg d q
    · exact logW_two (Or.inr (Or.inr (Or.inl rfl))) d q
  · show (m.log ++ twoW "drop").length ≤ _
    simp [twoW]; omega
  · show m.marks.length ≤ _
    omega
  · have := h.nx
    show 0 ≤ m.next ∧ m.next ≤ _
    push_cast; omega
theorem MdOk.say (h : MdOk S N j m) {zs : List D} (hz : zs.length ≤ 4) (hst : Stnd S N (m.said.map (·.2) ++ zs)) {w : Str} (hw : w = "say" ∨ w = "say_all") : MdOk S N (j + 1) ((m.sayL zs).lg w) := by
  have l2 := h.ll
  have l3 := h.ml
  have nx := h.nx
  have en := sayL_next (ys := zs) (m := m)
  have ⟨em, el⟩ := sayL_marks (ys := zs) (m := m)
  refine ⟨h.num.sayL nx.1, by show Stnd S N ((m.sayL zs).said.map (·.2)); rw [sayL_said]; exact hst, fun y hy => ?_, fun d hd => ?_, ?_, ?_, ?_⟩
  · have hy' : y ∈ (m.sayL zs).marks := hy
    rw [em] at hy'
    have := h.pl y hy'
    refine ⟨this.1.up ?_, this.2⟩
    show m.next ≤ (m.sayL zs).next
    omega
  · have hd' : d ∈ (m.sayL zs).log ++ twoW w := hd
    rw [el] at hd'
    rcases List.mem_append.mp hd' with q | q
    · exact h.lg d q
    · exact logW_two (hw.elim Or.inl fun e => Or.inr (Or.inl e)) d q
  · show ((m.sayL zs).log ++ twoW w).length ≤ _
    rw [el]
    simp [twoW]; omega
  · show (m.sayL zs).marks.length ≤ _
    rw [em]; omega
  · show 0 ≤ (m.sayL zs).next ∧ (m.sayL zs).next ≤ _
    push_cast; omega
end
/-- two lines more in the model's log -/
theorem mo_ext {m : Mo} {o d p l : Addr} {rs : List Addr} {M R : Mem} {P : AK} {w : Str} (h : M.Perm (moC m o d p l rs ++ R)) (hl : m.log.length ≤ 20000) (q : ∀ M', M'.Perm (moC (m.lg w) o d p l rs ++ R) → P .non M') : ExtA (.ref l) [.lst [.tup [.str "in", .str w], .tup [.str "out", .str w]]] M P := by
  obtain ⟨M1, hp1, hM1⟩ := put_of (R := (o, MO.dK (moD m.next d p l)) :: (d, MO.dK (saidK m.said)) :: (p, MO.lst (rs.map D.ref)) :: (pilM rs m.marks ++ R)) (.lst (m.log ++ twoW w)) (show M.Perm ((l, MO.lst m.log) :: _) from perm_mc fun x => by have h1 := mc_perm h x; walk_at "pm")
  exact ExtA.mk (r := twoW w) hp1 (by simp [twoW]; omega) (q M1 (perm_mc fun x => by
    have h1 := mc_perm hM1 x
    show mc x M1 = mc x ((o, MO.dK (moD m.next d p l)) :: (d, MO.dK (saidK m.said)) :: (p, MO.lst (rs.map D.ref)) :: (l, MO.lst (m.log ++ twoW w)) :: pilM rs m.marks ++ R)
    walk_at "pm"))
/-- one more is said in the model -/
theorem mo_said {m : Mo} {o d p l : Addr} {rs : List Addr} {M R : Mem} {y : D} (h : M.Perm (moC m o d p l rs ++ R)) (hn : NumOk m) : ∃ M1 M2, PutM M d (.dK (saidK m.said)) (.dK (putKD (saidK m.said) (Sum.inl m.next) y)) M1 ∧ (o, MO.dK (moD m.next d p l)) ∈ M1 ∧ PutM M1 o (.dK (moD m.next d p l)) (.dK (putKD (moD m.next d p l) (Sum.inr ("next" : Str)) (.int (m.next + 1)))) M2 ∧ M2.Perm (moC (m.say y) o d p l rs ++ R) := by
  obtain ⟨M1, hp1, hM1⟩ := put_of (R := (o, MO.dK (moD m.next d p l)) :: (p, MO.lst (rs.map D.ref)) :: (l, MO.lst m.log) :: (pilM rs m.marks ++ R)) (.dK (saidK (m.said ++ [(m.next, y)]))) (show M.Perm ((d, MO.dK (saidK m.said)) :: _) from perm_mc fun x => by have h1 := mc_perm h x; walk_at "pm")
  obtain ⟨M2, hp2, hM2⟩ := put_of (R := (d, MO.dK (saidK (m.said ++ [(m.next, y)]))) :: (p, MO.lst (rs.map D.ref)) :: (l, MO.lst m.log) :: (pilM rs m.marks ++ R)) (.dK (moD (m.next + 1) d p l)) (show M1.Perm ((o, MO.dK (moD m.next d p l)) :: _) from perm_mc fun x => by have h1 := mc_perm hM1 x; walk_at "pm")
  refine ⟨M1, M2, by rw [put_said hn.2]; exact hp1, hM1.mem_iff.mpr (by simp), by rw [mdPutNext]; exact hp2, perm_mc fun x => by
    have h1 := mc_perm hM2 x
    show mc x M2 = mc x ((o, MO.dK (moD (m.next + 1) d p l)) :: (d, MO.dK (saidK (m.said ++ [(m.next, y)]))) :: (p, MO.lst (rs.map D.ref)) :: (l, MO.lst m.log) :: pilM rs m.marks ++ R)
    walk_at "pm"⟩
theorem rngD_shw {n : Int} {k : Nat} (h0 : 0 ≤ n) (h1 : n ≤ 100000) (hk : k ≤ 100) : ∃ p, IsPy (.tup (rngD n k)) p ∧ Shw 1 4100 p := by
  have : PyS 1 ((rngD n k).length * (40 + 1)) (.tup (rngD n k)) := PyS.tup (k := 0) (w := 40) (fun d hd => by
    obtain ⟨i, hi, rfl⟩ := List.mem_map.mp hd
    have := List.mem_range.mp hi
    exact PyS.int (by
      have e : (10 : Nat) ^ 12 = 1000000000000 := by decide
      rw [e]; omega)) (by rw [rngD_length]; omega)
  obtain ⟨_, p, h1, h2, _⟩ := this
  exact ⟨p, h1, h2.mono (Nat.le_refl _) (by rw [rngD_length]; omega)⟩
theorem eqv_lst_self {S N : List Str} {l : List D} (hT : Tongue S N) (h : Stnd S N l) {M : Mem} {P : AK} (q : P (.bl true) M) : EqA (.lst l) (.lst l) M P := by
  obtain ⟨ps, ⟨h1, h2⟩, _⟩ := stnd_py hT h
  have sh : SeqAt.shaped (.list ps) = true := by simpa [SeqAt.shaped, PyData.canLay0, PyData.depth] using h2
  refine EqA.py (.lst h1) (.lst h1) sh sh ?_
  have e : PyData.eqv (.list ps) (.list ps) = true := eqv_same _ (SeqAt.canLay_of_shaped sh)
  rw [e]; exact q
def st_all (a : Ad) : AS :=
  (aSeq (aDrop (aBM "list" ExtA (aDGet (aVar 3) (aC (.str "log"))) (aCons (aLst (aCons (aTup (aCons (aC (.str "in")) (aCons (aC (.str "say_all")) aNil))) (aCons (aTup (aCons (aC (.str "out")) (aCons (aC (.str "say_all")) aNil))) aNil))) aNil)))
  (aSeq (aAsg (aBin IxA (aLst (aCons (aCB TupleA (aCons (aVar 6) aNil)) (aCons (aCB ListMA (aCons (aVar 6) aNil)) aNil))) (aCall (sp_l_take a) (fun ds _ => ds) 2 (aCons (aVar 0) (aCons (aC (.int 2)) aNil)))) (gNameA 8))
  (aSeq (aAsg (aMeth a.Store "say_all" (sp_Store_say_all a) (fun ds _ => ds) 2 0 (aVar 2) (aCons (aVar 8) aNil) aNil) (gNameA 9))
  (aSeq (aIfS (aB (aBin NeA (aCB ListA (aCons (aVar 8) aNil)) (aVar 6)))
  (aRet (aC (.bl false)))
  aNext)
  (aSeq (aIfS (aTru (aCB IsiA (aCons (aVar 8) (aCons (aC (.ty "list")) aNil))))
  (aDrop (aBM "list" AppA (aVar 8) (aCons (aTup (aCons (aC (.str "within")) (aCons (aTup (aCons (aC (.str "none")) aNil)) (aCons (aTup (aCons (aC (.str "all")) aNil)) aNil)))) aNil)))
  aNext)
  (aRet (aBin EqA (aCB ReprA (aCons (aVar 9) aNil)) (aCB ReprA (aCons (aTupRg (aCons (aVar 11) (aCons (aDGet (aVar 3) (aC (.str "next"))) aNil))) aNil)))))))))
def st_say (a : Ad) : AS :=
  (aSeq (aFor (iLstA (aVar 6)) (gNameA 7)
  (aSeq (aDPut (aVar 5) (aDGet (aVar 3) (aC (.str "next"))) (aVar 7))
  (aDPut (aVar 3) (aC (.str "next")) (aBin AddA (aDGet (aVar 3) (aC (.str "next"))) (aC (.int 1))))))
  (aSeq (aIfS (aAnd (aB (aBin EqA (aCB LenA (aCons (aVar 6) aNil)) (aC (.int 1)))) (aB (aBin LtA (aVar 4) (aC (.int 4)))))
  (aSeq (aDrop (aBM "list" ExtA (aDGet (aVar 3) (aC (.str "log"))) (aCons (aLst (aCons (aTup (aCons (aC (.str "in")) (aCons (aC (.str "say")) aNil))) (aCons (aTup (aCons (aC (.str "out")) (aCons (aC (.str "say")) aNil))) aNil))) aNil)))
  (aRet (aBin EqA (aCB ReprIA (aCons (aMeth a.Store "say" (sp_Store_say a) (fun ds _ => ds) 2 0 (aVar 2) (aCons (aBin IxA (aVar 6) (aC (.int 0))) aNil) aNil) aNil)) (aCB ReprIA (aCons (aVar 11) aNil)))))
  aNext)
  (st_all a)))
theorem step_say (a : Ad) {p : Addr} {l : List D} {B : Int} {S N : List Str} {s o : Addr} {sx : D} {t : Int} {m : Mo} {j : Nat} {w : Int} {zs : List D} {d p1 l1 d2 p2 l2 : Addr} {rs rs2 : List Addr} {W : Mem} {P : AK} {EX : XKA} {K : KE}
    (hK : K.rt = (retK P EX).rt) (hl : Pool B l) (hB : B < 900000) (hT : Tongue S N) (hx : Tp sx S) (hok : MdOk S N j m) (hj : j < 1000) (hz : zs.length ≤ 4) (hst : Stnd S N (m.said.map (·.2) ++ zs)) (hr : rs.length = m.marks.length) (hr2 : rs2.length = m.marks.length)
    (hM : W.Perm ([(p, .lst l)] ++ (stC a (TalkD a sx N t) m s d p1 l1 rs ++ moC m o d2 p2 l2 rs2)))
    (hp : ∀ (m' : Mo) (l' : List D) Ms Mm M', MdOk S N (j + 1) m' → Pool (B + 1) l' → StoreM a (TalkD a sx N t) m' s Ms → ModM m' o Mm → M'.Perm ([(p, .lst l')] ++ (Ms ++ Mm)) → P (.bl true) M') :
    st_say a [some (.ref p), some (tonD S N), some (.ref s), some (.ref o), some (.int w), some (.ref d2), some (.lst zs), none, none, none, some (.lst (m.said.map fun q => .int q.1)), some (.int m.next), none] W K := by
  have hnx := hok.nx
  have hll := hok.ll
  have hmo : ∀ {m' : Mo} {W : Mem} {X : Mem}, W.Perm (X ++ (stC a (TalkD a sx N t) m s d p1 l1 rs ++ moC m' o d2 p2 l2 rs2)) → W.Perm (moC m' o d2 p2 l2 rs2 ++ (X ++ stC a (TalkD a sx N t) m s d p1 l1 rs)) := fun h => perm_mc fun x => by
    have h1 := mc_perm h x
    simp only [mc_app] at *; omega
  unfold st_say
  walk_at "go"
  refine ⟨fun i ρ' M' => ∃ x7 : Option D, ρ' = [some (.ref p), some (tonD S N), some (.ref s), some (.ref o), some (.int w), some (.ref d2), some (.lst zs), x7, none, none, some (.lst (m.said.map fun q => .int q.1)), some (.int m.next), none] ∧ M'.Perm ([(p, .lst l)] ++ (stC a (TalkD a sx N t) m s d p1 l1 rs ++ moC (m.sayL (zs.take i)) o d2 p2 l2 rs2)), ⟨none, rfl, hM⟩, fun i y ρ' M' hy hj => ?_, fun ρ' M' hj => ?_⟩
  · obtain ⟨x7, rfl, hM'⟩ := hj
    obtain ⟨hi, rfl⟩ := List.getElem?_eq_some_iff.mp hy
    have hM2 := hmo hM'
    have et : zs.take (i + 1) = zs.take i ++ [zs[i]] := List.take_succ_eq_append_getElem hi
    obtain ⟨W1, W2, k1, k2, k3, k4⟩ := mo_said (y := zs[i]) hM2 (NumOk.sayL hok.num.ok)
    have hsl : (m.sayL (zs.take i)).said.length ≤ 100 := by
      have e := congrArg List.length (sayL_said (ys := zs.take i) (m := m))
      have := hok.st.1
      simp at e this
      omega
    walk_at "go"
    refine dget_m (moR_s hM2) rfl mdNext ?_
    refine ⟨d2, _, _, W1, rfl, k1, rfl, by simp [saidK]; omega, ?_⟩
    walk_at "go"
    refine dget_m k2 rfl mdNext ?_
    walk_at "go"
    refine ⟨o, _, _, W2, rfl, k3, rfl, by simp [moD], ?_⟩
    walk_at "go"
    refine ⟨_, rfl, perm_mc fun x => ?_⟩
    rw [et, sayL_app]
    have h1 := mc_perm k4 x
    show mc x W2 = mc x ([(p, MO.lst l)] ++ (stC a (TalkD a sx N t) m s d p1 l1 rs ++ moC ((m.sayL (zs.take i)).say zs[i]) o d2 p2 l2 rs2))
    simp only [mc_app] at *; omega
  · obtain ⟨x7, rfl, hM'⟩ := hj
    rw [List.take_length] at hM'
    have hM2 := hmo hM'
    have ml : (m.sayL zs).log.length ≤ 20000 := by rw [sayL_marks.2]; omega
    have hr3 : rs2.length = (m.sayL zs).marks.length := by rw [sayL_marks.1]; exact hr2
    have all : ∀ (x7 : Option D) (K : KE) (W : Mem), K.rt = (retK P EX).rt → W.Perm (moC (m.sayL zs) o d2 p2 l2 rs2 ++ ([(p, .lst l)] ++ stC a (TalkD a sx N t) m s d p1 l1 rs)) → st_all a [some (.ref p), some (tonD S N), some (.ref s), some (.ref o), some (.int w), some (.ref d2), some (.lst zs), x7, none, none, some (.lst (m.said.map fun q => .int q.1)), some (.int m.next), none] W K := by
      intro x7 K W hK hW
      unfold st_all
      walk_at "go"
      refine dget_m (moR_s hW) rfl mdLog ⟨.mlst (moR_l hW), ?_⟩
      walk_at "go"
      refine mo_ext hW ml fun W1 hW1 => ?_
      walk_at "go"
      refine ListMA.seq .fr fun b hb => ?_
      have hW2 : (W1 ++ [(b, MO.lst zs)]).Perm ([(p, MO.lst l)] ++ (stC a (TalkD a sx N t) m s d p1 l1 rs ++ (moC ((m.sayL zs).lg "say_all") o d2 p2 l2 rs2 ++ [(b, MO.lst zs)]))) := perm_mc fun x => by
        have h1 := mc_perm hW1 x
        simp only [mc_app] at *; omega
      show aNil _ (W1 ++ [(b, MO.lst zs)]) _ _
      generalize W1 ++ [(b, MO.lst zs)] = W2 at hW2
      walk_at "go"
      refine callM_p hW2 ⟨p, l, B, 2, rfl, rfl, hl, by omega, by omega, by omega, fun r l3 r0 r1 hl3 => ?_⟩
      have fin : ∀ (x8 : D) (W : Mem) (Ms' Mj : Mem) (K : KE), K.rt = (retK P EX).rt → StoreM a (TalkD a sx N t) ((m.sayL zs).lg "say_all") s Ms' → W.Perm ([(p, .lst l3)] ++ (Ms' ++ (moC ((m.sayL zs).lg "say_all") o d2 p2 l2 rs2 ++ Mj))) →
          (aRet (aBin EqA (aCB ReprA (aCons (aVar 9) aNil)) (aCB ReprA (aCons (aTupRg (aCons (aVar 11) (aCons (aDGet (aVar 3) (aC (.str "next"))) aNil))) aNil)))) [some (.ref p), some (tonD S N), some (.ref s), some (.ref o), some (.int w), some (.ref d2), some (.lst zs), x7, some x8, some (.tup (rngD m.next zs.length)), some (.lst (m.said.map fun q => .int q.1)), some (.int m.next), none] W K := by
        intro x8 W Ms' Mj K hK k1 hW
        have hWm : W.Perm (moC ((m.sayL zs).lg "say_all") o d2 p2 l2 rs2 ++ ([(p, .lst l3)] ++ (Ms' ++ Mj))) := perm_mc fun x => by
          have h1 := mc_perm hW x
          simp only [mc_app] at *; omega
        obtain ⟨pp, pp1, pp2⟩ := rngD_shw (n := m.next) (k := zs.length) (by omega) (by omega) (by omega)
        walk_at "go"
        refine repr_r pp2 (by decide) (by decide) (.fr pp1) (Or.inl rfl) ?_
        walk_at "go"
        refine dget_m (moR_s hWm) rfl mdNext ?_
        have en : ((m.sayL zs).lg "say_all").next = m.next + zs.length := sayL_next
        rw [en]
        walk_at "go"
        refine ⟨m.next, m.next + zs.length, rfl, ⟨by omega, by omega, by omega, by omega, by omega⟩, ?_⟩
        rw [show (m.next + (zs.length : Int) - m.next).toNat = zs.length by omega]
        walk_at "go"
        refine repr_r pp2 (by decide) (by decide) (.fr pp1) (Or.inl rfl) ?_
        refine EqA.str ?_
        rw [hK]
        obtain ⟨M5, h5, h6⟩ := less_of (C := [(p, .lst l3)] ++ (Ms' ++ moC ((m.sayL zs).lg "say_all") o d2 p2 l2 rs2)) (J := Mj) (M := W) (perm_mc fun x => by
          have h1 := mc_perm hW x
          simp only [mc_app] at *; omega)
        have := hp _ l3 Ms' _ M5 (hok.say hz hst (Or.inr rfl)) hl3 k1 ⟨d2, p2, l2, rs2, hr3, List.Perm.refl _⟩ h6
        rw [decide_eq_true rfl]
        exact ⟨M5, h5, this⟩
      have hb : ∀ {W : Mem} {X : Mem}, W.Perm (X ++ [(b, MO.lst zs)]) → (b, MO.lst zs) ∈ W := fun h => h.mem_iff.mpr (by simp)
      have hW3 : ([(p, MO.lst l3)] ++ (stC a (TalkD a sx N t) m s d p1 l1 rs ++ (moC ((m.sayL zs).lg "say_all") o d2 p2 l2 rs2 ++ [(b, MO.lst zs)]))).Perm (stC a (TalkD a sx N t) m s d p1 l1 rs ++ (([(p, MO.lst l3)] ++ moC ((m.sayL zs).lg "say_all") o d2 p2 l2 rs2) ++ [(b, MO.lst zs)])) := perm_mc fun x => by
        simp only [mc_app]; omega
      rcases (show r = 0 ∨ r = 1 by omega) with rfl | rfl
      · refine IxA.seq .fr (show atI [D.tup zs, .ref b] 0 = some (.tup zs) from rfl) ?_
        walk_at "go"
        refine inst_m (memR_s hW3) (lkMeth (by decide +kernel)) ?_
        walk_at "go"
        refine callM_p hW3 ⟨s, sx, S, N, t, m, .tup zs, zs, _, [], rfl, hx, Or.inl ⟨Or.inl rfl, rfl⟩, ⟨d, p1, l1, rs, hr, List.Perm.refl _⟩, by simp, hok.num.ok, stnd_fits hT hst, by omega, fun Ms' M' k1 k2 => ?_⟩
        have hW4 : (M' ++ (([(p, MO.lst l3)] ++ moC ((m.sayL zs).lg "say_all") o d2 p2 l2 rs2) ++ [(b, MO.lst zs)])).Perm ([(p, .lst l3)] ++ (Ms' ++ (moC ((m.sayL zs).lg "say_all") o d2 p2 l2 rs2 ++ [(b, MO.lst zs)]))) := perm_mc fun x => by
          have h1 := mc_perm k2 x
          simp only [mc_app, mc_nil] at *; omega
        walk_at "go"
        refine eqv_lst_self hT (hst.sub (List.sublist_append_right _ _)) ?_
        repeat first
          | exact fin _ _ Ms' _ _ hK k1 hW4
          | walk_at "go1"
      · refine IxA.seq .fr (show atI [D.tup zs, .ref b] 1 = some (.ref b) from rfl) ?_
        walk_at "go"
        refine inst_m (memR_s hW3) (lkMeth (by decide +kernel)) ?_
        walk_at "go"
        have hW5 : (stC a (TalkD a sx N t) m s d p1 l1 rs ++ (([(p, MO.lst l3)] ++ moC ((m.sayL zs).lg "say_all") o d2 p2 l2 rs2) ++ [(b, MO.lst zs)])).Perm ((stC a (TalkD a sx N t) m s d p1 l1 rs ++ [(b, MO.lst zs)]) ++ ([(p, MO.lst l3)] ++ moC ((m.sayL zs).lg "say_all") o d2 p2 l2 rs2)) := perm_mc fun x => by
          simp only [mc_app]; omega
        refine callM_p (hW3.trans hW5) ⟨s, sx, S, N, t, m, .ref b, zs, _, [(b, MO.lst zs)], rfl, hx, Or.inr ⟨b, rfl, rfl⟩, ⟨d, p1, l1, rs, hr, List.Perm.refl _⟩, List.Perm.refl _, hok.num.ok, stnd_fits hT hst, by omega, fun Ms' M' k1 k2 => ?_⟩
        have hW4 : (M' ++ ([(p, MO.lst l3)] ++ moC ((m.sayL zs).lg "say_all") o d2 p2 l2 rs2)).Perm ([(p, .lst l3)] ++ (Ms' ++ (moC ((m.sayL zs).lg "say_all") o d2 p2 l2 rs2 ++ [(b, MO.lst zs)]))) := perm_mc fun x => by
          have h1 := mc_perm k2 x
          simp only [mc_app] at *; omega
        have hb4 : (b, MO.lst zs) ∈ M' ++ ([(p, MO.lst l3)] ++ moC ((m.sayL zs).lg "say_all") o d2 p2 l2 rs2) := hW4.mem_iff.mpr (by simp)
        walk_at "go"
        refine ListA.seq (.mu hb4) ?_
        walk_at "go"
        refine eqv_lst_self hT (hst.sub (List.sublist_append_right _ _)) ?_
        walk_at "go"
        refine IsiA.one (.mlst hb4) kb_list_list ?_
        walk_at "go"
        refine ⟨.mlst hb4, ?_⟩
        walk_at "go"
        obtain ⟨W6, k6, hW6⟩ := put_of (M := M' ++ ([(p, MO.lst l3)] ++ moC ((m.sayL zs).lg "say_all") o d2 p2 l2 rs2)) (R := [(p, MO.lst l3)] ++ (Ms' ++ moC ((m.sayL zs).lg "say_all") o d2 p2 l2 rs2)) (.lst (zs ++ [.tup [.str "within", .tup [.str "none"], .tup [.str "all"]]])) (show (M' ++ ([(p, MO.lst l3)] ++ moC ((m.sayL zs).lg "say_all") o d2 p2 l2 rs2)).Perm ((b, MO.lst zs) :: _) from perm_mc fun x => by
          have h1 := mc_perm hW4 x
          simp only [mc_app, mc_cons, mc_nil] at *; omega)
        refine AppA.mk k6 (by omega) ?_
        show (aRet _) _ _ _
        exact fin _ _ Ms' [(b, MO.lst (zs ++ [.tup [.str "within", .tup [.str "none"], .tup [.str "all"]]]))] _ hK k1 (perm_mc fun x => by
          have h1 := mc_perm hW6 x
          simp only [mc_app, mc_cons, mc_nil] at *; omega)
    walk_at "go"
    refine ite_r (fun h => ?_) (fun h => ?_)
    rotate_left
    · walk_at "go"
      exact all _ _ _ hK hM2
    walk_at "go"
    refine ite_r (fun h2 => ?_) (fun h2 => ?_)
    rotate_left
    · walk_at "go"
      exact all _ _ _ hK hM2
    obtain ⟨z, rfl⟩ : ∃ z, zs = [z] := List.length_eq_one_iff.mp (by simp at h; omega)
    walk_at "go"
    refine dget_m (moR_s hM2) rfl mdLog ⟨.mlst (moR_l hM2), ?_⟩
    walk_at "go"
    refine mo_ext hM2 ml fun W1 hW1 => ?_
    have hW2 : W1.Perm (stC a (TalkD a sx N t) m s d p1 l1 rs ++ ([(p, MO.lst l)] ++ moC ((m.sayL [z]).lg "say") o d2 p2 l2 rs2)) := perm_mc fun x => by
      have h1 := mc_perm hW1 x
      simp only [mc_app] at *; omega
    walk_at "go"
    refine inst_m (memR_s hW2) (lkMeth (by decide +kernel)) ?_
    walk_at "go"
    refine callM_p hW2 ⟨s, sx, S, N, t, m, z, rfl, hx, ⟨d, p1, l1, rs, hr, List.Perm.refl _⟩, hok.num.ok, stnd_fits hT hst, by omega, fun M' hM' => ?_⟩
    walk_at "go"
    refine ⟨_, rfl, log2_small (by omega), ?_⟩
    walk_at "go"
    refine ⟨_, rfl, log2_small (by omega), ?_⟩
    refine EqA.str ?_
    show K.rt _ _
    rw [hK, decide_eq_true rfl]
    exact ⟨_, Less.refl, hp _ l M' _ _ (hok.say hz hst (Or.inl rfl)) (Pool_mono hl (by omega) (by omega)) hM' ⟨d2, p2, l2, rs2, hr3, List.Perm.refl _⟩ (perm_mc fun x => by simp only [mc_app, mc_cons, mc_nil]; omega)⟩
def st_drop (a : Ad) : AS :=
  (aSeq (aDrop (aBM "list" ExtA (aDGet (aVar 3) (aC (.str "log"))) (aCons (aLst (aCons (aTup (aCons (aC (.str "in")) (aCons (aC (.str "drop")) aNil))) (aCons (aTup (aCons (aC (.str "out")) (aCons (aC (.str "drop")) aNil))) aNil))) aNil)))
  (aSeq (aAsg (aBin IxA (aVar 10) (aCall (sp_l_take a) (fun ds _ => ds) 2 (aCons (aVar 0) (aCons (aCB LenA (aCons (aVar 10) aNil)) aNil)))) (gNameA 12))
  (aSeq (aDrop (aDPop (aVar 5) (aVar 12)))
  (aRet (aBin IsA (aMeth a.Store "drop" (sp_Store_drop a) (fun ds _ => ds) 2 0 (aVar 2) (aCons (aVar 12) aNil) aNil) (aC .non))))))
def st_mark (a : Ad) : AS :=
  (aSeq (aDrop (aBM "list" ExtA (aDGet (aVar 3) (aC (.str "log"))) (aCons (aLst (aCons (aTup (aCons (aC (.str "in")) (aCons (aC (.str "mark")) aNil))) (aCons (aTup (aCons (aC (.str "out")) (aCons (aC (.str "mark")) aNil))) aNil))) aNil)))
  (aSeq (aDrop (aBM "list" AppA (aDGet (aVar 3) (aC (.str "marks"))) (aCons (aCB DictMA (aCons (aVar 5) aNil)) aNil)))
  (aRet (aBin EqA (aCB ReprIA (aCons (aMeth a.Store "mark" (sp_Store_mark a) (fun ds _ => ds) 1 0 (aVar 2) aNil aNil) aNil)) (aCB ReprIA (aCons (aCB LenA (aCons (aDGet (aVar 3) (aC (.str "marks"))) aNil)) aNil))))))
def st_back (a : Ad) : AS :=
  (aSeq (aDrop (aBM "list" ExtA (aDGet (aVar 3) (aC (.str "log"))) (aCons (aLst (aCons (aTup (aCons (aC (.str "in")) (aCons (aC (.str "back")) aNil))) (aCons (aTup (aCons (aC (.str "out")) (aCons (aC (.str "back")) aNil))) aNil))) aNil)))
  (aSeq (aDPut (aVar 3) (aC (.str "said")) (aBM "list" PopA (aDGet (aVar 3) (aC (.str "marks"))) aNil))
  (aRet (aBin IsA (aMeth a.Store "back" (sp_Store_back a) (fun ds _ => ds) 1 0 (aVar 2) aNil aNil) (aC .non)))))
def st_mid (a : Ad) : AS :=
  (aSeq (aIfS (aB (aBin EqA (aVar 4) (aC (.int 8))))
  (st_mark a)
  aNext)
  (aSeq (aIfS (aAnd (aB (aBin NeA (aVar 10) (aLst aNil))) (aOr (aB (aBin GtA (aVar 4) (aC (.int 5)))) (aAnd (aB (aBin LtA (aVar 4) (aC (.int 4)))) (aB (aBin EqA (aVar 6) (aLst aNil))))))
  (st_drop a)
  aNext)
  (st_say a)))
theorem eq_nil {l : List D} {ps : List PyData} {M : Mem} {P : AK} (h : Paired IsPy l ps) (sh : SeqAt.shaped (.list ps) = true) (q : P (.bl l.isEmpty) M) : EqA (.lst l) (.lst []) M P := by
  refine EqA.py (.lst h) (.lst .nil) sh (by decide) ?_
  have e : PyData.eqv (.list ps) (.list []) = l.isEmpty := by cases h <;> simp [PyData.eqv, PyData.eqvAll]
  rw [e]; exact q
theorem nums_py {m : Mo} {n : Int} (h : NumB n m.said) (hn : n ≤ 100000) : ∃ ps, Paired IsPy (m.said.map fun q => D.int q.1) ps ∧ SeqAt.shaped (.list ps) = true := by
  obtain ⟨ps, h1, h2, _⟩ := PyS.all (k := 0) (w := 40) (l := m.said.map fun q => D.int q.1) fun d hd => by
    obtain ⟨q, hq, rfl⟩ := List.mem_map.mp hd
    have := h.2 q hq
    exact PyS.int (by
      have e : (10 : Nat) ^ 12 = 1000000000000 := by decide
      rw [e]; omega)
  exact ⟨ps, h1, (Shw.lst h2).shaped (by omega)⟩
section
variable {a : Ad} {p : Addr} {l : List D} {B : Int} {S N : List Str} {s o : Addr} {sx : D} {t : Int} {m : Mo} {j : Nat} {w : Int} {zs : List D} {d p1 l1 d2 p2 l2 : Addr} {rs rs2 : List Addr} {W : Mem} {P : AK} {EX : XKA} {K : KE}
theorem moP {m' : Mo} {X Y : Mem} (h : W.Perm (X ++ (Y ++ moC m' o d2 p2 l2 rs2))) : W.Perm (moC m' o d2 p2 l2 rs2 ++ (X ++ Y)) := perm_mc fun x => by
  have h1 := mc_perm h x
  simp only [mc_app] at *; omega
theorem stP {m' : Mo} {T : D} {X Y : Mem} (h : W.Perm (X ++ (stC a T m' s d p1 l1 rs ++ Y))) : W.Perm (stC a T m' s d p1 l1 rs ++ (X ++ Y)) := perm_mc fun x => by
  have h1 := mc_perm h x
  simp only [mc_app] at *; omega
theorem step_mark
    (hK : K.rt = (retK P EX).rt) (hl : Pool B l) (hB : B < 900000) (hT : Tongue S N) (hx : Tp sx S) (hok : MdOk S N j m) (hj : j < 1000) (hr : rs.length = m.marks.length) (hr2 : rs2.length = m.marks.length)
    (hM : W.Perm ([(p, .lst l)] ++ (stC a (TalkD a sx N t) m s d p1 l1 rs ++ moC m o d2 p2 l2 rs2)))
    (hp : ∀ (m' : Mo) (l' : List D) Ms Mm M', MdOk S N (j + 1) m' → Pool (B + 1) l' → StoreM a (TalkD a sx N t) m' s Ms → ModM m' o Mm → M'.Perm ([(p, .lst l')] ++ (Ms ++ Mm)) → P (.bl true) M') :
    st_mark a [some (.ref p), some (tonD S N), some (.ref s), some (.ref o), some (.int w), some (.ref d2), some (.lst zs), none, none, none, some (.lst (m.said.map fun q => .int q.1)), some (.int m.next), none] W K := by
  have hnx := hok.nx
  have hll := hok.ll
  have hml := hok.ml
  have hM2 := moP hM
  unfold st_mark
  walk_at "go"
  refine dget_m (moR_s hM2) rfl mdLog ⟨.mlst (moR_l hM2), ?_⟩
  walk_at "go"
  refine mo_ext hM2 (by omega) fun W1 hW1 => ?_
  walk_at "go"
  refine dget_m (moR_s hW1) rfl mdMarks ⟨.mlst (moR_p hW1), ?_⟩
  walk_at "go"
  refine DictMA.mk (.mu (moR_d hW1)) fun q hq => ?_
  walk_at "go"
  obtain ⟨W2, hp2, hW2⟩ := put_of (M := W1 ++ [(q, MO.dK (saidK m.said))]) (R := (o, MO.dK (moD m.next d2 p2 l2)) :: (d2, MO.dK (saidK m.said)) :: (l2, MO.lst (m.log ++ twoW "mark")) :: (pilM rs2 m.marks ++ ((q, MO.dK (saidK m.said)) :: ([(p, .lst l)] ++ stC a (TalkD a sx N t) m s d p1 l1 rs)))) (.lst ((rs2 ++ [q]).map D.ref))
    (show (W1 ++ [(q, MO.dK (saidK m.said))]).Perm ((p2, MO.lst (rs2.map D.ref)) :: _) from perm_mc fun x => by
      have h1 := mc_perm hW1 x
      simp only [moC, Mo.lg, mc_app, mc_cons, mc_nil] at *; omega)
  have hW2' : W2.Perm (stC a (TalkD a sx N t) m s d p1 l1 rs ++ ([(p, .lst l)] ++ moC (m.mark.lg "mark") o d2 p2 l2 (rs2 ++ [q]))) := perm_mc fun x => by
    have h1 := mc_perm hW2 x
    simp only [moC, Mo.lg, Mo.mark, pilM_snoc hr2, mc_app, mc_cons, mc_nil] at *; omega
  refine AppA.mk (by rw [List.map_append] at hp2; exact hp2) (by simp; omega) ?_
  walk_at "go"
  refine inst_m (memR_s hW2') (lkMeth (by decide +kernel)) ?_
  walk_at "go"
  refine callM_p hW2' ⟨s, TalkD a sx N t, m, rfl, ⟨d, p1, l1, rs, hr, List.Perm.refl _⟩, by omega, by omega, fun M' hM' => ?_⟩
  have hW3 : (M' ++ ([(p, MO.lst l)] ++ moC (m.mark.lg "mark") o d2 p2 l2 (rs2 ++ [q]))).Perm (moC (m.mark.lg "mark") o d2 p2 l2 (rs2 ++ [q]) ++ (M' ++ [(p, MO.lst l)])) := perm_mc fun x => by simp only [mc_app]; omega
  walk_at "go"
  refine ⟨_, rfl, log2_small (by omega), ?_⟩
  walk_at "go"
  refine dget_m (moR_s hW3) rfl mdMarks ?_
  refine LenA.seq (.mu (moR_p hW3)) ?_
  walk_at "go"
  have e : (((rs2 ++ [q]).map D.ref).length : Int) = (m.marks.length : Int) + 1 := by simp [hr2]
  refine ⟨_, rfl, log2_small (by simp; omega), ?_⟩
  rw [e]
  refine EqA.str ?_
  rw [hK, decide_eq_true rfl]
  exact ⟨_, Less.refl, hp _ l M' _ _ hok.mark (Pool_mono hl (by omega) (by omega)) hM' ⟨d2, p2, l2, rs2 ++ [q], by simp [Mo.mark, Mo.lg, hr2], List.Perm.refl _⟩ (perm_mc fun x => by simp only [mc_app, mc_cons, mc_nil]; omega)⟩
theorem step_drop
    (hK : K.rt = (retK P EX).rt) (hl : Pool B l) (hB : B < 900000) (hT : Tongue S N) (hx : Tp sx S) (hok : MdOk S N j m) (hj : j < 1000) (hr : rs.length = m.marks.length) (hr2 : rs2.length = m.marks.length)
    (hM : W.Perm ([(p, .lst l)] ++ (stC a (TalkD a sx N t) m s d p1 l1 rs ++ moC m o d2 p2 l2 rs2))) (hne : m.said ≠ [])
    (hp : ∀ (m' : Mo) (l' : List D) Ms Mm M', MdOk S N (j + 1) m' → Pool (B + 1) l' → StoreM a (TalkD a sx N t) m' s Ms → ModM m' o Mm → M'.Perm ([(p, .lst l')] ++ (Ms ++ Mm)) → P (.bl true) M') :
    st_drop a [some (.ref p), some (tonD S N), some (.ref s), some (.ref o), some (.int w), some (.ref d2), some (.lst zs), none, none, none, some (.lst (m.said.map fun q => .int q.1)), some (.int m.next), none] W K := by
  have hll := hok.ll
  have hst := hok.st.1
  have hM2 := moP hM
  have hl0 : 0 < m.said.length := List.length_pos_iff.mpr hne
  unfold st_drop
  walk_at "go"
  refine dget_m (moR_s hM2) rfl mdLog ⟨.mlst (moR_l hM2), ?_⟩
  walk_at "go"
  refine mo_ext hM2 (by omega) fun W1 hW1 => ?_
  have hW1' : W1.Perm ([(p, .lst l)] ++ (moC (m.lg "drop") o d2 p2 l2 rs2 ++ stC a (TalkD a sx N t) m s d p1 l1 rs)) := perm_mc fun x => by
    have h1 := mc_perm hW1 x
    simp only [mc_app] at *; omega
  walk_at "go"
  refine callM_p hW1' ⟨p, l, B, (m.said.length : Int), by simp, rfl, hl, by omega, by omega, by simp at hst; omega, fun r l3 r0 r1 hl3 => ?_⟩
  obtain ⟨x, ex, hxm⟩ := atx_some (l := m.said.map fun q => D.int q.1) r0 (by simpa using r1)
  obtain ⟨q, hq, rfl⟩ := List.mem_map.mp hxm
  have hn : q.1 ∈ m.said.map (·.1) := List.mem_map_of_mem (f := (·.1)) hq
  obtain ⟨y, hy⟩ := val_said hn
  refine IxA.seq .fr ex ?_
  have hW2 : ([(p, MO.lst l3)] ++ (moC (m.lg "drop") o d2 p2 l2 rs2 ++ stC a (TalkD a sx N t) m s d p1 l1 rs)).Perm (moC (m.lg "drop") o d2 p2 l2 rs2 ++ ([(p, MO.lst l3)] ++ stC a (TalkD a sx N t) m s d p1 l1 rs)) := perm_mc fun x => by simp only [mc_app]; omega
  walk_at "go"
  refine ⟨⟨_, .mu (moR_d hW2)⟩, ?_⟩
  walk_at "go"
  obtain ⟨W3, hp3, hW3⟩ := put_of (R := (o, MO.dK (moD m.next d2 p2 l2)) :: (p2, MO.lst (rs2.map D.ref)) :: (l2, MO.lst (m.log ++ twoW "drop")) :: (pilM rs2 m.marks ++ ([(p, MO.lst l3)] ++ stC a (TalkD a sx N t) m s d p1 l1 rs))) (.dK (saidK (m.said.filter fun z => decide (z.1 ≠ q.1)))) (show ([(p, MO.lst l3)] ++ (moC (m.lg "drop") o d2 p2 l2 rs2 ++ stC a (TalkD a sx N t) m s d p1 l1 rs)).Perm ((d2, MO.dK (saidK m.said)) :: _) from perm_mc fun x => by
    simp only [moC, Mo.lg, mc_app, mc_cons, mc_nil]; omega)
  refine ⟨d2, saidK m.said, Sum.inl q.1, y, W3, rfl, by rw [drop_said]; exact hp3, rfl, hy, ?_⟩
  have hW3' : W3.Perm (stC a (TalkD a sx N t) m s d p1 l1 rs ++ ([(p, MO.lst l3)] ++ moC ((m.drop q.1).lg "drop") o d2 p2 l2 rs2)) := perm_mc fun x => by
    have h1 := mc_perm hW3 x
    simp only [moC, Mo.lg, Mo.drop, mc_app, mc_cons, mc_nil] at *; omega
  walk_at "go"
  refine inst_m (memR_s hW3') (lkMeth (by decide +kernel)) ?_
  walk_at "go"
  refine callM_p hW3' ⟨s, TalkD a sx N t, m, q.1, rfl, ⟨d, p1, l1, rs, hr, List.Perm.refl _⟩, hn, by omega, fun M' hM' => ?_⟩
  refine aC_r ?_
  refine IsA.non ?_
  rw [hK]
  exact ⟨_, Less.refl, hp _ l3 M' _ _ (hok.drop q.1) hl3 hM' ⟨d2, p2, l2, rs2, hr2, List.Perm.refl _⟩ (perm_mc fun x => by simp only [mc_app, mc_cons, mc_nil]; omega)⟩
theorem step_back {ms : List (List (Int × D))} {z : List (Int × D)}
    (hK : K.rt = (retK P EX).rt) (hl : Pool B l) (hB : B < 900000) (hT : Tongue S N) (hx : Tp sx S) (hok : MdOk S N j m) (hj : j < 1000) (hr : rs.length = m.marks.length) (hr2 : rs2.length = m.marks.length)
    (hM : W.Perm ([(p, .lst l)] ++ (stC a (TalkD a sx N t) m s d p1 l1 rs ++ moC m o d2 p2 l2 rs2))) (hmk : m.marks = ms ++ [z])
    (hp : ∀ (m' : Mo) (l' : List D) Ms Mm M', MdOk S N (j + 1) m' → Pool (B + 1) l' → StoreM a (TalkD a sx N t) m' s Ms → ModM m' o Mm → M'.Perm ([(p, .lst l')] ++ (Ms ++ Mm)) → P (.bl true) M') :
    st_back a [some (.ref p), some (tonD S N), some (.ref s), some (.ref o), some (.int w), some (.ref d2), some (.lst zs), none, none, none, some (.lst (m.said.map fun q => .int q.1)), some (.int m.next), none] W K := by
  have hll := hok.ll
  have hM2 := moP hM
  have hr2' := hr2
  rw [hmk] at hr2'
  obtain ⟨rs', r, rfl⟩ : ∃ rs' r, rs2 = rs' ++ [r] := by
    rcases List.eq_nil_or_concat rs2 with h | ⟨rs', r, h⟩
    · rw [h] at hr2'; simp at hr2'
    · exact ⟨rs', r, by rw [h]; simp⟩
  have hr3 : rs'.length = ms.length := by simpa using hr2'
  unfold st_back
  walk_at "go"
  refine dget_m (moR_s hM2) rfl mdLog ⟨.mlst (moR_l hM2), ?_⟩
  walk_at "go"
  refine mo_ext hM2 (by omega) fun W1 hW1 => ?_
  walk_at "go"
  refine dget_m (moR_s hW1) rfl mdMarks ⟨.mlst (moR_p hW1), ?_⟩
  walk_at "go"
  obtain ⟨W2, hp2, hW2⟩ := put_of (R := (o, MO.dK (moD m.next d2 p2 l2)) :: (d2, MO.dK (saidK m.said)) :: (l2, MO.lst (m.log ++ twoW "back")) :: (pilM (rs' ++ [r]) m.marks ++ ([(p, MO.lst l)] ++ stC a (TalkD a sx N t) m s d p1 l1 rs))) (.lst (rs'.map D.ref)) (show W1.Perm ((p2, MO.lst ((rs' ++ [r]).map D.ref)) :: _) from perm_mc fun x => by
    have h1 := mc_perm hW1 x
    simp only [moC, Mo.lg, mc_app, mc_cons, mc_nil] at *; omega)
  refine PopA.mk (y := .ref r) (M' := W2) (by rw [show ((rs' ++ [r]).map D.ref).dropLast = rs'.map D.ref by simp]; exact hp2) (by simp) ?_
  walk_at "go"
  obtain ⟨W3, hp3, hW3⟩ := put_of (R := (d2, MO.dK (saidK m.said)) :: (p2, MO.lst (rs'.map D.ref)) :: (l2, MO.lst (m.log ++ twoW "back")) :: (pilM (rs' ++ [r]) m.marks ++ ([(p, MO.lst l)] ++ stC a (TalkD a sx N t) m s d p1 l1 rs))) (.dK (moD m.next r p2 l2)) (show W2.Perm ((o, MO.dK (moD m.next d2 p2 l2)) :: _) from perm_mc fun x => by
    have h1 := mc_perm hW2 x
    simp only [mc_app, mc_cons, mc_nil] at *; omega)
  refine ⟨o, moD m.next d2 p2 l2, _, W3, rfl, by rw [mdPutSaid]; exact hp3, rfl, by simp [moD], ?_⟩
  have hW3' : W3.Perm (stC a (TalkD a sx N t) m s d p1 l1 rs ++ ([(p, MO.lst l)] ++ (moC (({ m with said := z, marks := ms } : Mo).lg "back") o r p2 l2 rs' ++ [(d2, MO.dK (saidK m.said))]))) := perm_mc fun x => by
    have h1 := mc_perm hW3 x
    rw [hmk, pilM_snoc hr3] at h1
    simp only [moC, Mo.lg, mc_app, mc_cons, mc_nil] at *; omega
  walk_at "go"
  refine inst_m (memR_s hW3') (lkMeth (by decide +kernel)) ?_
  walk_at "go"
  refine callM_p hW3' ⟨s, TalkD a sx N t, m, ms, z, rfl, ⟨d, p1, l1, rs, hr, List.Perm.refl _⟩, by omega, hmk, fun M' hM' => ?_⟩
  refine aC_r ?_
  refine IsA.non ?_
  rw [hK]
  obtain ⟨M5, h5, h6⟩ := less_of (C := [(p, MO.lst l)] ++ (M' ++ moC (({ m with said := z, marks := ms } : Mo).lg "back") o r p2 l2 rs')) (J := [(d2, MO.dK (saidK m.said))]) (M := M' ++ ([(p, MO.lst l)] ++ (moC (({ m with said := z, marks := ms } : Mo).lg "back") o r p2 l2 rs' ++ [(d2, MO.dK (saidK m.said))]))) (perm_mc fun x => by
    simp only [mc_app]; omega)
  exact ⟨M5, h5, hp _ l M' _ _ (hok.back hmk) (Pool_mono hl (by omega) (by omega)) hM' ⟨r, p2, l2, rs', hr3, List.Perm.refl _⟩ h6⟩
theorem step_mid
    (hK : K.rt = (retK P EX).rt) (hl : Pool B l) (hB : B < 900000) (hT : Tongue S N) (hx : Tp sx S) (hok : MdOk S N j m) (hj : j < 1000) (hz : zs.length ≤ 4) (hst : Stnd S N (m.said.map (·.2) ++ zs)) (hr : rs.length = m.marks.length) (hr2 : rs2.length = m.marks.length)
    (hM : W.Perm ([(p, .lst l)] ++ (stC a (TalkD a sx N t) m s d p1 l1 rs ++ moC m o d2 p2 l2 rs2)))
    (hp : ∀ (m' : Mo) (l' : List D) Ms Mm M', MdOk S N (j + 1) m' → Pool (B + 1) l' → StoreM a (TalkD a sx N t) m' s Ms → ModM m' o Mm → M'.Perm ([(p, .lst l')] ++ (Ms ++ Mm)) → P (.bl true) M') :
    st_mid a [some (.ref p), some (tonD S N), some (.ref s), some (.ref o), some (.int w), some (.ref d2), some (.lst zs), none, none, none, some (.lst (m.said.map fun q => .int q.1)), some (.int m.next), none] W K := by
  have hnx := hok.nx
  obtain ⟨ps, hps, hsh⟩ := nums_py hok.num (by omega)
  obtain ⟨zp, ⟨hzp, hzs⟩, _⟩ := stnd_py hT (hst.sub (List.sublist_append_right _ _))
  have hzs' : SeqAt.shaped (.list zp) = true := by simpa [SeqAt.shaped, PyData.canLay0, PyData.depth] using hzs
  have say : ∀ K : KE, K.rt = (retK P EX).rt → st_say a [some (.ref p), some (tonD S N), some (.ref s), some (.ref o), some (.int w), some (.ref d2), some (.lst zs), none, none, none, some (.lst (m.said.map fun q => .int q.1)), some (.int m.next), none] W K :=
    fun K hK => step_say a hK hl hB hT hx hok hj hz hst hr hr2 hM hp
  have drop : ∀ K : KE, K.rt = (retK P EX).rt → m.said ≠ [] → st_drop a [some (.ref p), some (tonD S N), some (.ref s), some (.ref o), some (.int w), some (.ref d2), some (.lst zs), none, none, none, some (.lst (m.said.map fun q => .int q.1)), some (.int m.next), none] W K :=
    fun K hK hne => step_drop hK hl hB hT hx hok hj hr hr2 hM hne hp
  unfold st_mid
  walk_at "go"
  refine ite_r (fun h => step_mark hK hl hB hT hx hok hj hr hr2 hM hp) (fun h => ?_)
  walk_at "go"
  refine eq_nil hps hsh ?_
  walk_at "go"
  refine ite_r (fun h1 => ?_) (fun h1 => ?_)
  · have hne : m.said ≠ [] := fun e => by rw [e] at h1; simp at h1
    walk_at "go"
    refine ite_r (fun h2 => ?_) (fun h2 => ?_)
    · walk_at "go"
      exact drop _ hK hne
    · walk_at "go"
      refine ite_r (fun h3 => ?_) (fun h3 => ?_)
      · walk_at "go"
        refine eq_nil hzp hzs' ?_
        walk_at "go"
        refine ite_r (fun h4 => drop _ hK hne) (fun h4 => ?_)
        walk_at "go"
        exact say _ hK
      · walk_at "go"
        exact say _ hK
  · walk_at "go"
    exact say _ hK
end
theorem saidK_keyD (l : List (Int × D)) : (saidK l).map (fun kv => keyD kv.1) = l.map fun q => D.int q.1 := by
  unfold saidK
  rw [List.map_map]; rfl
theorem pick_r {a : Ad} {p : Addr} {x1 x2 x3 : Option D} {rr : Rho} {w : Int} {l : List D} {B : Int} {M R : Mem} {P : AK} {EX : XKA} (hM : M.Perm ([(p, MO.lst l)] ++ R)) (hl : Pool B l) (hB : B < 990000) (h : ∀ (n : Nat) l2 M', n ≤ 4 → Pool (B + 1) l2 → M'.Perm ([(p, MO.lst l2)] ++ R) → P (.int n) M') :
    (aBin IxA (aLst (aCons (aC (.int 1)) (aCons (aCall (sp_l_take a) (fun ds _ => ds) 2 (aCons (aVar 0) (aCons (aC (.int 5)) aNil))) aNil))) (aCB IntA (aCons (aChain LtA LtA (aC (.int 3)) (aVar 4) (aC (.int 6))) aNil))) (some (.ref p) :: x1 :: x2 :: x3 :: some (.int w) :: rr) M P EX := by
  walk_at "go"
  refine callM_p hM ⟨p, l, B, 5, rfl, rfl, hl, by omega, by omega, by omega, fun r l2 r0 r1 hl2 => ?_⟩
  have f0 : IxA (.lst [D.int 1, .int r]) (.int 0) ([(p, MO.lst l2)] ++ R) P := IxA.seq .fr (show atI [D.int 1, .int r] 0 = some (.int 1) from rfl) (h 1 l2 _ (by omega) hl2 (List.Perm.refl _))
  have f1 : IxA (.lst [D.int 1, .int r]) (.int 1) ([(p, MO.lst l2)] ++ R) P := IxA.seq .fr (show atI [D.int 1, .int r] 1 = some (.int r) from rfl) (by
    obtain ⟨k, rfl⟩ : ∃ k : Nat, r = k := ⟨r.toNat, by omega⟩
    exact h k l2 _ (by omega) hl2 (List.Perm.refl _))
  walk_at "go"
  refine ite_r (fun h1 => ?_) (fun h1 => ?_)
  · walk_at "go"
    refine IntA.bl ?_
    by_cases h2 : w < 6
    · rw [decide_eq_true h2]; exact f1
    · rw [decide_eq_false h2]; exact f0
  · walk_at "go"
    refine IntA.bl ?_
    exact f0
theorem vc_l_step (a : Ad) : ∀ ds M P EX, sp_l_step a ds M P EX → t_l_step a (startA N_l_step ds) M (retK P EX) := by
  intro ds M P EX ⟨p, l, B, S, N, s, o, sx, t, m, j, Ms, Mm, hd, hl, hB, hT, hx, hok, hj, ⟨d, p1, l1, rs, hr, h1⟩, ⟨d2, p2, l2, rs2, hr2, h2⟩, hM0, hp⟩
  subst hd
  have hM : M.Perm ([(p, MO.lst l)] ++ (stC a (TalkD a sx N t) m s d p1 l1 rs ++ moC m o d2 p2 l2 rs2)) := hM0.trans (List.Perm.append_left _ ((h1.append_right _).trans (h2.append_left _)))
  unfold t_l_step
  show (aSeq _ _) [some (.ref p), some (tonD S N), some (.ref s), some (.ref o), none, none, none, none, none, none, none, none, none] _ _
  walk_at "go"
  refine callM_p hM ⟨p, l, B, 10, rfl, rfl, hl, by omega, by omega, by omega, fun w l3 w0 w1 hl3 => ?_⟩
  have hM3 := moP (List.Perm.refl ([(p, MO.lst l3)] ++ (stC a (TalkD a sx N t) m s d p1 l1 rs ++ moC m o d2 p2 l2 rs2)))
  walk_at "go"
  refine dget_m (moR_s hM3) rfl mdSaid ?_
  walk_at "go"
  refine ListKA.mk (.mu (moR_d hM3)) ?_
  rw [saidK_keyD]
  walk_at "go"
  refine dget_m (moR_s hM3) rfl mdNext ?_
  walk_at "go"
  refine ⟨_, .mu (moR_d hM3), ?_⟩
  rw [saidK_vals]
  refine aCons_r (pick_r (List.Perm.refl _) hl3 (by omega) fun n l4 W hn hl4 hW => ?_)
  walk_at "go"
  refine callM_p hW ⟨p, l4, B + 1 + 1, S, N, m.said.map (·.2), n, rfl, rfl, hl4, by omega, hT, hok.st, hn, fun zs l5 hz hst hl5 => ?_⟩
  have hM5 := moP (List.Perm.refl ([(p, MO.lst l5)] ++ (stC a (TalkD a sx N t) m s d p1 l1 rs ++ moC m o d2 p2 l2 rs2)))
  have post : ∀ (m' : Mo) (l' : List D) Ms Mm M', MdOk S N (j + 1) m' → Pool (B + 1 + 1 + 7100 + 1) l' → StoreM a (TalkD a sx N t) m' s Ms → ModM m' o Mm → M'.Perm ([(p, MO.lst l')] ++ (Ms ++ Mm)) → P (.bl true) M' :=
    fun m' l' Ms Mm M' h1 h2 => hp m' l' Ms Mm M' h1 (Pool_mono h2 (by omega) (by omega))
  have mid : ∀ K : KE, K.rt = (retK P EX).rt → st_mid a [some (.ref p), some (tonD S N), some (.ref s), some (.ref o), some (.int w), some (.ref d2), some (.lst zs), none, none, none, some (.lst (m.said.map fun q => .int q.1)), some (.int m.next), none] ([(p, MO.lst l5)] ++ (stC a (TalkD a sx N t) m s d p1 l1 rs ++ moC m o d2 p2 l2 rs2)) K :=
    fun K hK => step_mid hK hl5 (by omega) hT hx hok hj (by omega) hst hr hr2 (List.Perm.refl _) post
  refine gN6 ?_
  refine aSeq_r (aIfS_r (aAnd_r ?_))
  walk_at "go"
  refine ite_r (fun h => ?_) (fun h => ?_)
  · walk_at "go"
    refine dget_m (moR_s hM5) rfl mdMarks ?_
    walk_at "go"
    refine ⟨rs2.map D.ref, .mu (moR_p hM5), rfl, ?_⟩
    walk_at "go"
    refine ite_r (fun h2 => ?_) (fun h2 => ?_)
    · obtain ⟨ms, z, hmk⟩ : ∃ ms z, m.marks = ms ++ [z] := by
        rcases List.eq_nil_or_concat m.marks with e | ⟨ms, z, e⟩
        · rw [e] at hr2
          have : rs2 = [] := List.length_eq_zero_iff.mp hr2
          rw [this] at h2; simp at h2
        · exact ⟨ms, z, by rw [e]; simp⟩
      exact step_back (EX := EX) (K := _) rfl hl5 (by omega) hT hx hok hj hr hr2 (List.Perm.refl _) hmk post
    · exact mid _ rfl
  · refine ⟨fun z => absurd z (by decide), fun _ => ?_⟩
    exact mid _ rfl
def tu_rest (a : Ad) : AS :=
  (aSeq (aAsg (aMeth a.Store "standing" (sp_Store_standing a) (fun ds _ => ds) 1 0 (aBin IxA (aVar 2) (aVar 4)) aNil aNil) (gNameA 5))
  (aSeq (aDPut (aVar 5) (aCall (sp_l_take a) (fun ds _ => ds) 2 (aCons (aVar 0) (aCons (aC (.int 14)) aNil))) (aTup (aCons (aC (.str "within")) (aCons (aTup (aCons (aC (.str "all")) aNil)) (aCons (aTup (aCons (aC (.str "none")) aNil)) aNil)))))
  (aRet (aAndV (aCall (sp_l_step a) (fun ds _ => ds) 4 (aCons (aVar 0) (aCons (aVar 1) (aCons (aBin IxA (aVar 2) (aVar 4)) (aCons (aBin IxA (aVar 3) (aVar 4)) aNil))))) (aCall (sp_l_alike a) (fun ds _ => ds) 2 (aCons (aVar 2) (aCons (aVar 3) aNil)))))))
theorem perm_set {α : Type} : ∀ {l : List α} {i : Nat} {x y : α}, l[i]? = some x → (l.set i y).Perm (y :: l.eraseIdx i)
  | [], _, _, _, h => by simp at h
  | z :: l, 0, x, y, h => List.Perm.refl _
  | z :: l, i + 1, x, y, h => (List.Perm.cons z (perm_set (l := l) (i := i) (x := x) (by simpa using h))).trans (List.Perm.swap _ _ _)
theorem MdOk.up {S N : List Str} {j j' : Nat} {m : Mo} (h : MdOk S N j m) (hj : j ≤ j') : MdOk S N j' m :=
  ⟨h.num, h.st, h.pl, h.lg, by have := h.ll; omega, by have := h.ml; omega, by have := h.nx; omega⟩
/-- the store at a place and its model, their worth changed -/
theorem sm_set {a : Ad} {T : D} {qs : List SM} {k : Nat} {q : SM} (hq : qs[k]? = some q) {M : Mem} (h : SMs a T qs M) : ∃ Ms Mm R, StoreM a T q.m q.s Ms ∧ ModM q.m q.o Mm ∧ M.Perm (Ms ++ (Mm ++ R)) ∧
    (∀ (m' : Mo) (Ms' Mm' M' : Mem), StoreM a T m' q.s Ms' → ModM m' q.o Mm' → M'.Perm (Ms' ++ (Mm' ++ R)) → SMs a T (qs.set k ⟨q.s, q.o, m'⟩) M') ∧
    (∀ (s2 o2 : Addr) (Ms' Mm' Ms2 Mm2 M' : Mem), StoreM a T q.m q.s Ms' → ModM q.m q.o Mm' → StoreM a T q.m s2 Ms2 → ModM q.m o2 Mm2 → M'.Perm (Ms2 ++ (Mm2 ++ (Ms' ++ (Mm' ++ R)))) → SMs a T (qs ++ [⟨s2, o2, q.m⟩]) M') := by
  have hp := perm_erase hq
  obtain ⟨Ms, Mm, R, h1, h2, h3, h4⟩ := SMs.perm hp h
  refine ⟨Ms, Mm, R, h1, h2, h4, fun m' Ms' Mm' M' g1 g2 g3 => SMs.perm (perm_set hq).symm ⟨Ms', Mm', R, g1, g2, h3, g3⟩, fun s2 o2 Ms' Mm' Ms2 Mm2 M' g1 g2 g3 g4 g5 => ?_⟩
  refine SMs.perm (qs := ⟨s2, o2, q.m⟩ :: qs) (show ((⟨s2, o2, q.m⟩ : SM) :: qs).Perm (qs ++ [⟨s2, o2, q.m⟩]) from List.perm_append_comm (l₁ := [(⟨s2, o2, q.m⟩ : SM)])) ⟨Ms2, Mm2, _, g3, g4, SMs.perm hp.symm ⟨Ms', Mm', R, g1, g2, h3, List.Perm.refl _⟩, g5⟩
theorem set_map {α β : Type} {f : α → β} {l : List α} {k : Nat} {q q' : α} (hq : l[k]? = some q) (e : f q' = f q) : (l.set k q').map f = l.map f := by
  rw [List.map_set, e]
  refine List.ext_getElem? fun i => ?_
  by_cases h : k = i
  · subst h
    obtain ⟨h1, rfl⟩ := List.getElem?_eq_some_iff.mp hq
    rw [List.getElem?_set_self (by simpa using h1), List.getElem?_map, List.getElem?_eq_getElem h1]; rfl
  · rw [List.getElem?_set_ne h]
theorem turn_rest {a : Ad} {p x y : Addr} {l : List D} {B : Int} {S N : List Str} {sx : D} {t : Int} {qs : List SM} {j k : Nat} {q : SM} {Mq W : Mem} {P : AK} {EX : XKA} {K : KE}
    (hK : K.rt = (retK P EX).rt) (hl : Pool B l) (hB : B < 790000) (hT : Tongue S N) (hx : Tp sx S) (hj : j < 1000) (h3 : qs.length ≤ 3) (hok : ∀ q ∈ qs, MdOk S N j q.m) (hS : SMs a (TalkD a sx N t) qs Mq) (hq : qs[k]? = some q)
    (hM : W.Perm ([(p, MO.lst l)] ++ ([(x, MO.lst (qs.map fun q => D.ref q.s)), (y, MO.lst (qs.map fun q => D.ref q.o))] ++ Mq)))
    (hp : ∀ (qs' : List SM) (l' : List D) Mq M', 1 ≤ qs'.length → qs'.length ≤ 3 → (∀ q ∈ qs', MdOk S N (j + 1) q.m) → Pool (B + 7201) l' → SMs a (TalkD a sx N t) qs' Mq → M'.Perm ([(p, MO.lst l')] ++ ([(x, MO.lst (qs'.map fun q => D.ref q.s)), (y, MO.lst (qs'.map fun q => D.ref q.o))] ++ Mq)) → P (.bl true) M') :
    tu_rest a [some (.ref p), some (tonD S N), some (.ref x), some (.ref y), some (.int k), none] W K := by
  have hk := (List.getElem?_eq_some_iff.mp hq).1
  have mq := List.mem_of_getElem? hq
  have as : atI (qs.map fun q => D.ref q.s) (k : Int) = some (D.ref q.s) := atx_nat (by rw [List.getElem?_map, hq]; rfl)
  have ao : atI (qs.map fun q => D.ref q.o) (k : Int) = some (D.ref q.o) := atx_nat (by rw [List.getElem?_map, hq]; rfl)
  obtain ⟨Ms, Mm, R, g1, g2, g3, g4, _⟩ := sm_set hq hS
  obtain ⟨da, pa, la, i1⟩ := g1.ins
  unfold tu_rest
  walk_at "go"
  refine IxA.seq (.mu (hM.mem_iff.mpr (by simp))) as ?_
  refine inst_m (hM.mem_iff.mpr (List.mem_append_right _ (List.mem_append_right _ (g3.mem_iff.mpr (List.mem_append_left _ i1))))) (lkMeth (by decide +kernel)) ?_
  walk_at "go"
  refine callM_p (C := Ms) (R := [(p, MO.lst l)] ++ ([(x, MO.lst (qs.map fun q => D.ref q.s)), (y, MO.lst (qs.map fun q => D.ref q.o))] ++ (Mm ++ R))) (perm_mc fun z => by
    have e1 := mc_perm hM z
    have e2 := mc_perm g3 z
    simp only [mc_app] at *; omega) ⟨q.s, TalkD a sx N t, q.m, rfl, g1, fun b Ms1 M1 k1 k2 => ?_⟩
  have hW1 : (M1 ++ ([(p, MO.lst l)] ++ ([(x, MO.lst (qs.map fun q => D.ref q.s)), (y, MO.lst (qs.map fun q => D.ref q.o))] ++ (Mm ++ R)))).Perm ([(p, MO.lst l)] ++ ([(b, MO.dK (saidK q.m.said)), (x, MO.lst (qs.map fun q => D.ref q.s)), (y, MO.lst (qs.map fun q => D.ref q.o))] ++ (Ms1 ++ (Mm ++ R)))) := perm_mc fun z => by
    have e1 := mc_perm k2 z
    simp only [mc_app, mc_cons, mc_nil] at *; omega
  walk_at "go"
  refine callM_p hW1 ⟨p, l, B, 14, rfl, rfl, hl, by omega, by omega, by omega, fun r l2 r0 r1 hl2 => ?_⟩
  obtain ⟨W2, hp2, hW2⟩ := put_of (R := [(p, MO.lst l2)] ++ ([(x, MO.lst (qs.map fun q => D.ref q.s)), (y, MO.lst (qs.map fun q => D.ref q.o))] ++ (Ms1 ++ (Mm ++ R)))) (MO.dK (putKD (saidK q.m.said) (Sum.inl r) (.tup [.str "within", .tup [.str "all"], .tup [.str "none"]]))) (show ([(p, MO.lst l2)] ++ ([(b, MO.dK (saidK q.m.said)), (x, MO.lst (qs.map fun q => D.ref q.s)), (y, MO.lst (qs.map fun q => D.ref q.o))] ++ (Ms1 ++ (Mm ++ R)))).Perm ((b, MO.dK (saidK q.m.said)) :: _) from perm_mc fun z => by
    simp only [mc_app, mc_cons, mc_nil]; omega)
  refine ⟨b, _, _, W2, rfl, hp2, rfl, by have := (hok q mq).st.1; simp [saidK] at this ⊢; omega, ?_⟩
  generalize putKD (saidK q.m.said) (Sum.inl r) (.tup [.str "within", .tup [.str "all"], .tup [.str "none"]]) = kb at hW2
  walk_at "go"
  refine IxA.seq (.mu (hW2.mem_iff.mpr (by simp))) as ?_
  walk_at "go"
  refine IxA.seq (.mu (hW2.mem_iff.mpr (by simp))) ao ?_
  walk_at "go"
  refine callM_p (C := [(p, MO.lst l2)] ++ (Ms1 ++ Mm)) (R := (b, MO.dK kb) :: ([(x, MO.lst (qs.map fun q => D.ref q.s)), (y, MO.lst (qs.map fun q => D.ref q.o))] ++ R)) (perm_mc fun z => by
    have e1 := mc_perm hW2 z
    simp only [mc_app, mc_cons, mc_nil] at *; omega) ⟨p, l2, B + 1, S, N, q.s, q.o, sx, t, q.m, j, Ms1, Mm, rfl, hl2, by omega, hT, hx, hok q mq, by omega, k1, g2, List.Perm.refl _, fun m' l3 Ms3 Mm3 M3 c1 c2 c3 c4 c5 => ?_⟩
  have hS3 := g4 m' Ms3 Mm3 (Ms3 ++ (Mm3 ++ R)) c3 c4 (List.Perm.refl _)
  have es := set_map (f := fun q : SM => D.ref q.s) (q' := ⟨q.s, q.o, m'⟩) hq rfl
  have eo := set_map (f := fun q : SM => D.ref q.o) (q' := ⟨q.s, q.o, m'⟩) hq rfl
  have hok3 : ∀ z ∈ qs.set k ⟨q.s, q.o, m'⟩, MdOk S N (j + 1) z.m := fun z hz => by
    rcases List.mem_or_eq_of_mem_set hz with h | h
    · exact (hok z h).up (by omega)
    · rw [h]; exact c1
  have hl3 : (qs.set k ⟨q.s, q.o, m'⟩).length = qs.length := List.length_set
  walk_at "go"
  refine callM_p (C := [(x, MO.lst ((qs.set k ⟨q.s, q.o, m'⟩).map fun q => D.ref q.s)), (y, MO.lst ((qs.set k ⟨q.s, q.o, m'⟩).map fun q => D.ref q.o))] ++ (Ms3 ++ (Mm3 ++ R))) (R := [(p, MO.lst l3), (b, MO.dK kb)]) (perm_mc fun z => by
    have e1 := mc_perm c5 z
    rw [es, eo]
    simp only [mc_app, mc_cons, mc_nil] at *; omega) ⟨x, y, sx, S, N, t, qs.set k ⟨q.s, q.o, m'⟩, j + 1, _, rfl, hx, hT, by omega, by omega, hok3, hS3, List.Perm.refl _, fun Mq4 M4 u1 u2 => ?_⟩
  rw [hK]
  obtain ⟨M5, h5, h6⟩ := less_of (C := [(p, MO.lst l3)] ++ ([(x, MO.lst ((qs.set k ⟨q.s, q.o, m'⟩).map fun q => D.ref q.s)), (y, MO.lst ((qs.set k ⟨q.s, q.o, m'⟩).map fun q => D.ref q.o))] ++ Mq4)) (J := [(b, MO.dK kb)]) (M := M4 ++ [(p, MO.lst l3), (b, MO.dK kb)]) (perm_mc fun z => by
    have e1 := mc_perm u2 z
    simp only [mc_app, mc_cons, mc_nil] at *; omega)
  exact ⟨M5, h5, hp _ l3 Mq4 M5 (by omega) (by omega) hok3 (Pool_mono c2 (by omega) (by omega)) u1 h6⟩
theorem vc_l_turn (a : Ad) : ∀ ds M P EX, sp_l_turn a ds M P EX → t_l_turn a (startA N_l_turn ds) M (retK P EX) := by
  intro ds M P EX ⟨p, l, B, S, N, x, y, sx, t, qs, j, Mq, hd, hl, hB, hT, hx, hj, h1, h3, hok, hS, hM0, hp⟩
  subst hd
  have hM : M.Perm ([(p, MO.lst l)] ++ ([(x, MO.lst (qs.map fun q => D.ref q.s)), (y, MO.lst (qs.map fun q => D.ref q.o))] ++ Mq)) := hM0
  have post : ∀ (qs' : List SM) (l' : List D) Mq M', 1 ≤ qs'.length → qs'.length ≤ 3 → (∀ q ∈ qs', MdOk S N (j + 1) q.m) → Pool (B + 1 + 1 + 7201) l' → SMs a (TalkD a sx N t) qs' Mq → M'.Perm ([(p, MO.lst l')] ++ ([(x, MO.lst (qs'.map fun q => D.ref q.s)), (y, MO.lst (qs'.map fun q => D.ref q.o))] ++ Mq)) → P (.bl true) M' :=
    fun qs' l' Mq M' a1 a2 a3 a4 => hp qs' l' Mq M' a1 a2 a3 (Pool_mono a4 (by omega) (by omega))
  unfold t_l_turn
  show (aSeq _ _) [some (.ref p), some (tonD S N), some (.ref x), some (.ref y), none, none] _ _
  walk_at "go"
  refine LenA.seq (l := qs.map fun q => D.ref q.s) (.mu (hM.mem_iff.mpr (by simp))) ?_
  walk_at "go"
  refine callM_p hM ⟨p, l, B, (qs.length : Int), by simp, rfl, hl, by omega, by omega, by omega, fun r l2 r0 r1 hl2 => ?_⟩
  obtain ⟨k, rfl⟩ : ∃ k : Nat, r = k := ⟨r.toNat, by omega⟩
  have hk : k < qs.length := by omega
  have hq : qs[k]? = some qs[k] := List.getElem?_eq_getElem hk
  generalize qs[k] = q at hq
  have mq := List.mem_of_getElem? hq
  have hM2 := List.Perm.refl ([(p, MO.lst l2)] ++ ([(x, MO.lst (qs.map fun q => D.ref q.s)), (y, MO.lst (qs.map fun q => D.ref q.o))] ++ Mq))
  walk_at "go"
  refine callM_p hM2 ⟨p, l2, B + 1, 6, rfl, rfl, hl2, by omega, by omega, by omega, fun r2 l3 r20 r21 hl3 => ?_⟩
  have hM3 := List.Perm.refl ([(p, MO.lst l3)] ++ ([(x, MO.lst (qs.map fun q => D.ref q.s)), (y, MO.lst (qs.map fun q => D.ref q.o))] ++ Mq))
  have rest : ∀ K : KE, K.rt = (retK P EX).rt → tu_rest a [some (.ref p), some (tonD S N), some (.ref x), some (.ref y), some (.int k), none] ([(p, MO.lst l3)] ++ ([(x, MO.lst (qs.map fun q => D.ref q.s)), (y, MO.lst (qs.map fun q => D.ref q.o))] ++ Mq)) K :=
    fun K hK => turn_rest hK hl3 (by omega) hT hx (by omega) h3 hok hS hq hM3 post
  walk_at "go"
  refine ite_r (fun h => ?_) (fun h => ?_)
  rotate_left
  · refine ⟨fun z => absurd z (by decide), fun _ => ?_⟩
    exact rest _ rfl
  walk_at "go"
  refine ite_r (fun h => ?_) (fun h => ?_)
  rotate_left
  · exact rest _ rfl
  have h2 : qs.length < 3 := by simp at h; omega
  have as : atI (qs.map fun q => D.ref q.s) (k : Int) = some (D.ref q.s) := atx_nat (by rw [List.getElem?_map, hq]; rfl)
  have ao : atI (qs.map fun q => D.ref q.o) (k : Int) = some (D.ref q.o) := atx_nat (by rw [List.getElem?_map, hq]; rfl)
  obtain ⟨Ms, Mm, R, g1, g2, g3, _, g4⟩ := sm_set hq hS
  obtain ⟨da, pa, la, i1⟩ := g1.ins
  have okq := hok q mq
  have oll := okq.ll
  have oml := okq.ml
  walk_at "go"
  refine ⟨.mlst (a := x) (l := qs.map fun q => D.ref q.s) (hM3.mem_iff.mpr (by simp)), ?_⟩
  walk_at "go"
  refine IxA.seq (.mu (show (x, MO.lst (qs.map fun q => D.ref q.s)) ∈ _ from hM3.mem_iff.mpr (by simp))) as ?_
  refine inst_m (hM3.mem_iff.mpr (List.mem_append_right _ (List.mem_append_right _ (g3.mem_iff.mpr (List.mem_append_left _ i1))))) (lkMeth (by decide +kernel)) ?_
  walk_at "go"
  refine callM_p (C := Ms) (R := [(p, MO.lst l3)] ++ ([(x, MO.lst (qs.map fun q => D.ref q.s)), (y, MO.lst (qs.map fun q => D.ref q.o))] ++ (Mm ++ R))) (perm_mc fun z => by
    have e2 := mc_perm g3 z
    simp only [mc_app, mc_cons, mc_nil] at *; omega) ⟨q.s, TalkD a sx N t, q.m, rfl, g1, by omega, by omega, fun s2 Ms1 Ms2 M1 k1 k2 k3 => ?_⟩
  walk_at "go"
  obtain ⟨W2, hp2, hW2⟩ := put_of (M := M1 ++ ([(p, MO.lst l3)] ++ ([(x, MO.lst (qs.map fun q => D.ref q.s)), (y, MO.lst (qs.map fun q => D.ref q.o))] ++ (Mm ++ R)))) (R := [(p, MO.lst l3)] ++ ([(y, MO.lst (qs.map fun q => D.ref q.o))] ++ (Ms1 ++ (Ms2 ++ (Mm ++ R))))) (MO.lst ((qs.map fun q => D.ref q.s) ++ [.ref s2])) (show (M1 ++ ([(p, MO.lst l3)] ++ ([(x, MO.lst (qs.map fun q => D.ref q.s)), (y, MO.lst (qs.map fun q => D.ref q.o))] ++ (Mm ++ R)))).Perm ((x, MO.lst (qs.map fun q => D.ref q.s)) :: _) from perm_mc fun z => by
    have e1 := mc_perm k3 z
    simp only [mc_app, mc_cons, mc_nil] at *; omega)
  refine AppA.mk hp2 (by simp; omega) ?_
  walk_at "go"
  refine ⟨.mlst (a := y) (l := qs.map fun q => D.ref q.o) (hW2.mem_iff.mpr (by simp)), ?_⟩
  walk_at "go"
  refine IxA.seq (.mu (hW2.mem_iff.mpr (by simp))) ao ?_
  walk_at "go"
  refine callM_p (C := Mm) (R := (x, MO.lst ((qs.map fun q => D.ref q.s) ++ [.ref s2])) :: ([(p, MO.lst l3)] ++ ([(y, MO.lst (qs.map fun q => D.ref q.o))] ++ (Ms1 ++ (Ms2 ++ R))))) (perm_mc fun z => by
    have e1 := mc_perm hW2 z
    simp only [mc_app, mc_cons, mc_nil] at *; omega) ⟨q.o, q.m, rfl, g2, by omega, fun o2 Mm1 Mm2 M3 c1 c2 c3 => ?_⟩
  obtain ⟨W4, hp4, hW4⟩ := put_of (M := M3 ++ ((x, MO.lst ((qs.map fun q => D.ref q.s) ++ [.ref s2])) :: ([(p, MO.lst l3)] ++ ([(y, MO.lst (qs.map fun q => D.ref q.o))] ++ (Ms1 ++ (Ms2 ++ R)))))) (R := (x, MO.lst ((qs.map fun q => D.ref q.s) ++ [.ref s2])) :: ([(p, MO.lst l3)] ++ (Ms1 ++ (Ms2 ++ (Mm1 ++ (Mm2 ++ R)))))) (MO.lst ((qs.map fun q => D.ref q.o) ++ [.ref o2])) (show (M3 ++ ((x, MO.lst ((qs.map fun q => D.ref q.s) ++ [.ref s2])) :: ([(p, MO.lst l3)] ++ ([(y, MO.lst (qs.map fun q => D.ref q.o))] ++ (Ms1 ++ (Ms2 ++ R)))))).Perm ((y, MO.lst (qs.map fun q => D.ref q.o)) :: _) from perm_mc fun z => by
    have e1 := mc_perm c3 z
    simp only [mc_app, mc_cons, mc_nil] at *; omega)
  refine aNil_r ?_
  refine AppA.mk hp4 (by simp; omega) ?_
  have hS4 := g4 s2 o2 Ms1 Mm1 Ms2 Mm2 (Ms2 ++ (Mm2 ++ (Ms1 ++ (Mm1 ++ R)))) k1 c1 k2 c2 (List.Perm.refl _)
  have hok4 : ∀ z ∈ qs ++ [⟨s2, o2, q.m⟩], MdOk S N j z.m := fun z hz => by
    rcases List.mem_append.mp hz with h | h
    · exact hok z h
    · rw [List.mem_singleton.mp h]; exact okq
  have hq4 : (qs ++ [⟨s2, o2, q.m⟩])[k]? = some q := by rw [List.getElem?_append_left hk]; exact hq
  have go := turn_rest (K := retK P EX) (W := W4) rfl hl3 (by omega) hT hx (by omega) (show (qs ++ [(⟨s2, o2, q.m⟩ : SM)]).length ≤ 3 by simp; omega) hok4 hS4 hq4 (perm_mc fun z => by
    have e1 := mc_perm hW4 z
    simp only [List.map_append, List.map_cons, List.map_nil, mc_app, mc_cons, mc_nil] at *; omega) post
  exact go
theorem tongue_ok {S N : List Str} {t : Int} (hT : Tongue S N) (ht : 1 ≤ t) : talkOk S N t = true := by
  obtain ⟨h1, h2, h3, h4, h5, h6, h7⟩ := hT
  have a1 : areB S 3 = true := by
    simp only [areB, Bool.and_eq_true, decide_eq_true_eq, List.all_eq_true]
    exact ⟨by omega, h3, h5⟩
  have a2 : areB N 2 = true := by
    simp only [areB, Bool.and_eq_true, decide_eq_true_eq, List.all_eq_true]
    exact ⟨by omega, h4, h6⟩
  have a3 : N.any (fun n => decide (n ∈ S)) = false := by
    rw [List.any_eq_false]
    intro n hn
    have := h7 n hn
    simpa using this
  unfold talkOk
  rw [a1, a2, a3, decide_eq_true ht]; rfl
/-- a talk made, then a store of it -/
theorem mk_talk {a : Ad} {S N : List Str} {t : Int} {M : Mem} {Q : AK} {EX : XKA} (hT : Tongue S N) (ht : 1 ≤ t) (x : Addr) (h : Q .non ((x, .ins a.Talk (talkF (.tup (S.map D.str)) N t)) :: M)) :
    CallM (sp_Talk_init a) [.ref x, .tup (S.map D.str), .tup (N.map D.str), .int t] ((x, MO.ins a.Talk []) :: M) Q EX := by
  obtain ⟨s1, s2⟩ := tongue_small hT
  have tok := tongue_ok hT ht
  exact callM_one split_head ⟨x, .tup (S.map D.str), S, N, t, rfl, Or.inl rfl, rfl, s1, s2, fun _ => h, fun no => by rw [tok] at no; cases no⟩
theorem mk_store {a : Ad} {T : D} {M : Mem} {Q : AK} {EX : XKA} (s : Addr) (h : ∀ Ms, StoreM a T ⟨[], 0, [], []⟩ s Ms → Q .non (Ms ++ M)) :
    CallM (sp_Store_init a) [.ref s, T] ((s, MO.ins a.Store []) :: M) Q EX :=
  callM_p (C := [(s, .ins a.Store [])]) (R := M) (List.Perm.refl _) ⟨s, T, rfl, rfl, fun M' hM' => h M' hM'⟩
theorem md0 {S N : List Str} : MdOk S N 0 ⟨[], 0, [], []⟩ :=
  ⟨⟨List.Pairwise.nil, fun q hq => absurd hq List.not_mem_nil⟩, ⟨by simp, fun d hd => absurd hd List.not_mem_nil, by decide⟩, fun z hz => absurd hz List.not_mem_nil, fun d hd => absurd hd List.not_mem_nil, by simp, by simp, by simp⟩
/-- stores and models between turns -/
def LInv (a : Ad) (T : D) (S N : List Str) (x y : Addr) (j : Nat) (M : Mem) : Prop := ∃ (qs : List SM) (Mq R : Mem), 1 ≤ qs.length ∧ qs.length ≤ 3 ∧ (∀ q ∈ qs, MdOk S N j q.m) ∧ SMs a T qs Mq ∧ M.Perm ([(x, MO.lst (qs.map fun q => D.ref q.s)), (y, MO.lst (qs.map fun q => D.ref q.o))] ++ (Mq ++ R))
theorem LInv.up {a : Ad} {T : D} {S N : List Str} {x y : Addr} {j j' : Nat} {M : Mem} (h : LInv a T S N x y j M) (hj : j ≤ j') : LInv a T S N x y j' M := by
  obtain ⟨qs, Mq, R, h1, h2, h3, h4, h5⟩ := h
  exact ⟨qs, Mq, R, h1, h2, fun q hq => (h3 q hq).up hj, h4, h5⟩
def LPool (B : Int) (p : Addr) (C : Mem → Prop) (M : Mem) : Prop := ∃ l M0, Pool B l ∧ C M0 ∧ M.Perm ([(p, .lst l)] ++ M0)
theorem LInv.cons {a : Ad} {T : D} {S N : List Str} {x y : Addr} {j : Nat} {M : Mem} (h : LInv a T S N x y j M) {M' : Mem} {z : Addr × MO} (hp : M'.Perm ([z] ++ M)) : LInv a T S N x y j M' := by
  obtain ⟨qs, Mq, R, h1, h2, h3, h4, h5⟩ := h
  refine ⟨qs, Mq, z :: R, h1, h2, h3, h4, perm_mc fun u => ?_⟩
  have e1 := mc_perm hp u
  have e2 := mc_perm h5 u
  simp only [mc_app, mc_cons, mc_nil] at *; omega
theorem lturn {a : Ad} {S N : List Str} {t : Int} {p x y : Addr} {j : Nat} {B : Int} {M : Mem} {P : AK} {EX : XKA} (hT : Tongue S N) (hj : j < 1000) (hB : B < 700000) (h : LPool B p (LInv a (TalkD a (.tup (S.map D.str)) N t) S N x y j) M)
    (post : ∀ M', LPool (B + 7300) p (LInv a (TalkD a (.tup (S.map D.str)) N t) S N x y (j + 1)) M' → P (.bl true) M') : CallM (sp_l_turn a) [.ref p, tonD S N, .ref x, .ref y] M P EX := by
  obtain ⟨l, M0, hl, ⟨qs, Mq, R, h1, h2, h3, h4, h5⟩, hM⟩ := h
  refine callM_p (C := [(p, .lst l), (x, MO.lst (qs.map fun q => D.ref q.s)), (y, MO.lst (qs.map fun q => D.ref q.o))] ++ Mq) (R := R) (perm_mc fun u => by
    have e1 := mc_perm hM u
    have e2 := mc_perm h5 u
    simp only [mc_app, mc_cons, mc_nil] at *; omega) ⟨p, l, B, S, N, x, y, .tup (S.map D.str), t, qs, j, Mq, rfl, hl, hB, hT, Or.inl rfl, hj, h1, h2, h3, h4, List.Perm.refl _, fun qs' l' Mq' M' c1 c2 c3 c4 c5 c6 => post _ ⟨l', _, c4, ⟨qs', Mq', R, c1, c2, c3, c5, List.Perm.refl _⟩, perm_mc fun u => ?_⟩⟩
  have e1 := mc_perm c6 u
  simp only [mc_app, mc_cons, mc_nil] at *; omega
theorem at_last {α : Type} {l : List α} (h : l ≠ []) : ∃ x ∈ l, atI l (-1) = some x := by
  have h0 : 0 < l.length := List.length_pos_iff.mpr h
  refine ⟨l[l.length - 1], List.getElem_mem _, ?_⟩
  unfold atI
  have : ixN l.length (-1) = some (l.length - 1) := by
    unfold ixN
    rw [if_neg (by omega)]
    simp; omega
  rw [this]
  exact List.getElem?_eq_getElem _
def law_end (a : Ad) : AS :=
  (aSeq (aPar 8 9 (aCons (aMk true a.Store (sp_Store_init a) (fun ds es => ds ++ es) 1 0 (aCons (aMk false a.Talk (sp_Talk_init a) (fun ds es => ds ++ es) 2 1 (aCons (aWk (aBin IxA (aVar 2) (aC (.int 0)))) (aCons (aWk (aBin IxA (aVar 2) (aC (.int 1)))) aNil)) (aCons (aVar 3) aNil)) aNil) aNil) (aCons (aMk true a.Store (sp_Store_init a) (fun ds es => ds ++ es) 1 0 (aCons (aMk false a.Talk (sp_Talk_init a) (fun ds es => ds ++ es) 2 1 (aCons (aWk (aBin IxA (aVar 2) (aC (.int 0)))) (aCons (aWk (aBin IxA (aVar 2) (aC (.int 1)))) aNil)) (aCons (aBin AddA (aVar 3) (aC (.int 1))) aNil)) aNil) aNil) aNil)))
  (aSeq (aDrop (aMeth a.Store "say_all" (sp_Store_say_all a) (fun ds _ => ds) 2 0 (aVar 8) (aCons (aListV (aDGet (aBin IxA (aVar 7) (aC (.int 0))) (aC (.str "said")))) aNil) aNil))
  (aSeq (aDrop (aMeth a.Store "say_all" (sp_Store_say_all a) (fun ds _ => ds) 2 0 (aVar 9) (aCons (aListV (aDGet (aBin IxA (aVar 7) (aC (.int 0))) (aC (.str "said")))) aNil) aNil))
  (aRet (aAndV (aBin (EqOwnA a.Store (sp_Store_eq a)) (aVar 8) (aBin IxA (aVar 6) (aC (.int 0)))) (aAndV (aNotV (aBin (EqOwnA a.Store (sp_Store_eq a)) (aVar 9) (aBin IxA (aVar 6) (aC (.int 0))))) (aBin (EqOwnA a.Talk (sp_Talk_eq a)) (aMeth a.Store "talk" (sp_Store_talk a) (fun ds _ => ds) 1 0 (aBin IxA (aVar 6) (aUn NegA (aC (.int 1)))) aNil aNil) (aMeth a.Store "talk" (sp_Store_talk a) (fun ds _ => ds) 1 0 (aVar 8) aNil aNil))))))))
def law_rest (a : Ad) : AS :=
  (aSeq (aFor (iRngA1 (aCons (aBin AddA (aC (.int 6)) (aCall (sp_l_take a) (fun ds _ => ds) 2 (aCons (aVar 1) (aCons (aC (.int 10)) aNil)))) aNil)) (gNameA 4)
  (aIfS (aNot (aTru (aCall (sp_l_turn a) (fun ds _ => ds) 4 (aCons (aVar 1) (aCons (aVar 2) (aCons (aVar 6) (aCons (aVar 7) aNil)))))))
  (aRet (aC (.bl false)))
  aNext))
  (aSeq (aFor (iRngA2 (aCons (aC (.int 1)) (aCons (aCB MinA (aCons (aC (.int 63)) (aCons (aCB LenA (aCons (aVar 0) aNil)) aNil))) aNil))) (gNameA 5)
  (aSeq (aAsg (aCall (sp_l_pool a) (fun ds _ => ds) 2 (aCons (aVar 0) (aCons (aVar 5) aNil))) (gNameA 1))
  (aFor (iRngA1 (aCons (aBin AddA (aC (.int 1)) (aCall (sp_l_take a) (fun ds _ => ds) 2 (aCons (aVar 1) (aCons (aC (.int 2)) aNil)))) aNil)) (gNameA 4)
  (aIfS (aNot (aTru (aCall (sp_l_turn a) (fun ds _ => ds) 4 (aCons (aVar 1) (aCons (aVar 2) (aCons (aVar 6) (aCons (aVar 7) aNil)))))))
  (aRet (aC (.bl false)))
  aNext))))
  (law_end a)))
theorem law_end_vc {a : Ad} {ns : List Int} {x1 x4 x5 : Option D} {x y : Addr} {S N : List Str} {t : Int} {j : Nat} {W : Mem} {P : AK} {EX : XKA} (hT : Tongue S N) (ht : 1 ≤ t) (hj : j < 1000) (h : LInv a (TalkD a (.tup (S.map D.str)) N t) S N x y j W) (hp : P (.bl true) []) :
    law_end a [some (.lsk (ns.map D.int)), x1, some (tonD S N), some (.int t), x4, x5, some (.ref x), some (.ref y), none, none] W (retK P EX) := by
  obtain ⟨qs, Mq, R, h1, h2, h3, h4, h5⟩ := h
  obtain ⟨s1, s2⟩ := tongue_small hT
  have hq : qs[0]? = some qs[0] := List.getElem?_eq_getElem (by omega)
  generalize qs[0] = q at hq
  have mq := List.mem_of_getElem? hq
  have okq := h3 q mq
  obtain ⟨ps, py, _⟩ := stnd_py hT okq.st
  have hlen : q.m.said.length ≤ 12 := by have := okq.st.1; simpa using this
  obtain ⟨Ms, Mm, Rq, g1, g2, g3, g4⟩ := sm_out mq h4
  have ax : atI (qs.map fun q => D.ref q.s) (0 : Int) = some (.ref q.s) := atx_nat (i := 0) (by rw [List.getElem?_map, hq]; rfl)
  have ay : atI (qs.map fun q => D.ref q.o) (0 : Int) = some (.ref q.o) := atx_nat (i := 0) (by rw [List.getElem?_map, hq]; rfl)
  have hne : qs ≠ [] := fun e => by rw [e] at h1; simp at h1
  obtain ⟨z, mz, az⟩ := at_last hne
  have az' : atI (qs.map fun q => D.ref q.s) (-1 : Int) = some (.ref z.s) := by
    have e : atI (qs.map fun q => D.ref q.s) (-1 : Int) = (atI qs (-1)).map fun q => D.ref q.s := by
      unfold atI
      rw [List.length_map]
      cases ixN qs.length (-1) with
      | none => rfl
      | some k => simp [List.getElem?_map]
    rw [e, az]; rfl
  have nums0 : NumOk ⟨[], 0, [], []⟩ := ⟨List.Pairwise.nil, fun q hq => absurd hq List.not_mem_nil⟩
  have fits : fitsB S N (([] : List (Int × D)).map (·.2) ++ q.m.said.map (·.2)) := stnd_fits hT okq.st
  have B0 : W.Perm ([(x, MO.lst (qs.map fun q => D.ref q.s)), (y, MO.lst (qs.map fun q => D.ref q.o))] ++ (Ms ++ (Mm ++ (Rq ++ R)))) := perm_mc fun u => by
    have e1 := mc_perm h5 u
    have e2 := mc_perm g3 u
    simp only [mc_app, mc_cons, mc_nil] at *; omega
  unfold law_end tonD
  walk_at "go"
  intro x8 hx8
  refine mk_talk hT ht x8 ⟨rfl, ?_⟩
  rw [if_neg (by simp)]
  refine ⟨_, _, split_head, ?_⟩
  walk_at "go"
  intro s8 hs8
  refine mk_store s8 fun M8 hM8 => ⟨rfl, ?_⟩
  rw [if_pos rfl]
  walk_at "go"
  intro x9 hx9
  refine mk_talk hT (show 1 ≤ t + 1 by omega) x9 ⟨rfl, ?_⟩
  rw [if_neg (by simp)]
  refine ⟨_, _, split_head, ?_⟩
  walk_at "go"
  intro s9 hs9
  refine mk_store s9 fun M9 hM9 => ⟨rfl, ?_⟩
  rw [if_pos rfl]
  have B1 : (M9 ++ (M8 ++ W)).Perm (M8 ++ (M9 ++ ([(x, MO.lst (qs.map fun q => D.ref q.s)), (y, MO.lst (qs.map fun q => D.ref q.o))] ++ (Ms ++ (Mm ++ (Rq ++ R)))))) := perm_mc fun u => by
    have e1 := mc_perm B0 u
    simp only [mc_app, mc_cons, mc_nil] at *; omega
  obtain ⟨d2, p2, l2, n1, n2, n3, _⟩ := g2.at_
  have memY : ∀ {V X Y : Mem}, V.Perm (X ++ (Y ++ ([(x, MO.lst (qs.map fun q => D.ref q.s)), (y, MO.lst (qs.map fun q => D.ref q.o))] ++ (Ms ++ (Mm ++ (Rq ++ R)))))) → (y, MO.lst (qs.map fun q => D.ref q.o)) ∈ V := fun h => h.mem_iff.mpr (by simp)
  have memX : ∀ {V X Y : Mem}, V.Perm (X ++ (Y ++ ([(x, MO.lst (qs.map fun q => D.ref q.s)), (y, MO.lst (qs.map fun q => D.ref q.o))] ++ (Ms ++ (Mm ++ (Rq ++ R)))))) → (x, MO.lst (qs.map fun q => D.ref q.s)) ∈ V := fun h => h.mem_iff.mpr (by simp)
  have memM : ∀ {V X Y : Mem} {u : Addr × MO}, V.Perm (X ++ (Y ++ ([(x, MO.lst (qs.map fun q => D.ref q.s)), (y, MO.lst (qs.map fun q => D.ref q.o))] ++ (Ms ++ (Mm ++ (Rq ++ R)))))) → u ∈ Mm → u ∈ V := fun h hu => h.mem_iff.mpr (by simp [hu])
  have memS : ∀ {V X Y A B : Mem} {u : Addr × MO}, V.Perm (X ++ (Y ++ ([(x, MO.lst (qs.map fun q => D.ref q.s)), (y, MO.lst (qs.map fun q => D.ref q.o))] ++ (A ++ B)))) → u ∈ A → u ∈ V := fun h hu => h.mem_iff.mpr (by simp [hu])
  have memY2 : ∀ {V X Y B : Mem} {u : Addr × MO}, V.Perm (X ++ (Y ++ B)) → u ∈ Y → u ∈ V := fun h hu => h.mem_iff.mpr (by simp [hu])
  have memL : ∀ {V X Y : Mem} {u : Addr × MO}, V.Perm (X ++ Y) → u ∈ X → u ∈ V := fun h hu => h.mem_iff.mpr (by simp [hu])
  walk_at "go"
  obtain ⟨da, pa, la, i8⟩ := hM8.ins
  refine inst_m (memL B1 i8) (lkMeth (by decide +kernel)) ?_
  walk_at "go"
  refine IxA.seq (.mu (memY B1)) ay ?_
  refine dget_m (memM B1 n1) rfl mdSaid ?_
  refine ⟨_, .mu (memM B1 n2), ?_⟩
  rw [saidK_vals]
  walk_at "go"
  refine callM_p B1 ⟨s8, .tup (S.map D.str), S, N, t, ⟨[], 0, [], []⟩, .lst (q.m.said.map (·.2)), q.m.said.map (·.2), M8, [], rfl, Or.inl rfl, Or.inl ⟨Or.inr rfl, rfl⟩, hM8, by simp, nums0, fits, by simp, fun Ms8 M8' k1 k2 => ?_⟩
  have k2' : M8'.Perm Ms8 := by simpa using k2
  have B2 : (M8' ++ (M9 ++ ([(x, MO.lst (qs.map fun q => D.ref q.s)), (y, MO.lst (qs.map fun q => D.ref q.o))] ++ (Ms ++ (Mm ++ (Rq ++ R)))))).Perm (M9 ++ (Ms8 ++ ([(x, MO.lst (qs.map fun q => D.ref q.s)), (y, MO.lst (qs.map fun q => D.ref q.o))] ++ (Ms ++ (Mm ++ (Rq ++ R)))))) := perm_mc fun u => by
    have e1 := mc_perm k2' u
    simp only [mc_app, mc_cons, mc_nil] at *; omega
  obtain ⟨db, pb, lb, i9⟩ := hM9.ins
  walk_at "go"
  refine inst_m (memL B2 i9) (lkMeth (by decide +kernel)) ?_
  walk_at "go"
  refine IxA.seq (.mu (memY B2)) ay ?_
  refine dget_m (memM B2 n1) rfl mdSaid ?_
  refine ⟨_, .mu (memM B2 n2), ?_⟩
  rw [saidK_vals]
  walk_at "go"
  refine callM_p B2 ⟨s9, .tup (S.map D.str), S, N, t + 1, ⟨[], 0, [], []⟩, .lst (q.m.said.map (·.2)), q.m.said.map (·.2), M9, [], rfl, Or.inl rfl, Or.inl ⟨Or.inr rfl, rfl⟩, hM9, by simp, nums0, fits, by simp, fun Ms9 M9' c1 c2 => ?_⟩
  have c2' : M9'.Perm Ms9 := by simpa using c2
  have said0 : ∀ w : Str, (((⟨[], 0, [], []⟩ : Mo).sayL (q.m.said.map (·.2))).lg w).said.map (·.2) = q.m.said.map (·.2) := fun w => by
    show ((⟨[], 0, [], []⟩ : Mo).sayL (q.m.said.map (·.2))).said.map (·.2) = _
    rw [sayL_said]; rfl
  have len0 : ∀ w : Str, (((⟨[], 0, [], []⟩ : Mo).sayL (q.m.said.map (·.2))).lg w).said.length ≤ 1000 := fun w => by
    have := congrArg List.length (said0 w)
    simp at this; omega
  generalize hm8 : ((⟨[], 0, [], []⟩ : Mo).sayL (q.m.said.map (·.2))).lg "say_all" = m8 at k1 c1
  have sd8 : m8.said.map (·.2) = q.m.said.map (·.2) := by rw [← hm8]; exact said0 _
  have ln8 : m8.said.length ≤ 1000 := by rw [← hm8]; exact len0 _
  have B3 : (M9' ++ (Ms8 ++ ([(x, MO.lst (qs.map fun q => D.ref q.s)), (y, MO.lst (qs.map fun q => D.ref q.o))] ++ (Ms ++ (Mm ++ (Rq ++ R)))))).Perm (Ms8 ++ (Ms9 ++ ([(x, MO.lst (qs.map fun q => D.ref q.s)), (y, MO.lst (qs.map fun q => D.ref q.o))] ++ (Ms ++ (Mm ++ (Rq ++ R)))))) := perm_mc fun u => by
    have e1 := mc_perm c2' u
    simp only [mc_app, mc_cons, mc_nil] at *; omega
  walk_at "go"
  refine IxA.seq (.mu (memX B3)) ax ?_
  obtain ⟨da, pa, la, i8⟩ := k1.ins
  obtain ⟨db, pb, lb, i9⟩ := c1.ins
  obtain ⟨dc, pc, lc, iq⟩ := g1.ins
  refine ⟨⟨_, .mu (memL B3 i8)⟩, .own (.mu (memS B3 iq)), callM_p (C := Ms8 ++ Ms) (R := Ms9 ++ ([(x, MO.lst (qs.map fun q => D.ref q.s)), (y, MO.lst (qs.map fun q => D.ref q.o))] ++ (Mm ++ (Rq ++ R)))) (perm_mc fun u => by
    have e1 := mc_perm B3 u
    simp only [mc_app, mc_cons, mc_nil] at *; omega) ⟨s8, .tup (S.map D.str), S, N, t, m8, ps, Or.inl rfl, s1, s2, ln8, by rw [sd8]; exact py, Or.inr (Or.inl ⟨q.s, .tup (S.map D.str), S, N, t, q.m, ps, Ms8, Ms, rfl, Or.inl rfl, s1, s2, by omega, py, k1, g1, List.Perm.refl _, fun A1 A2 M4 u1 u2 u3 => ?_⟩)⟩⟩
  rw [decide_eq_true (⟨rfl, rfl, rfl⟩ : S = S ∧ N = N ∧ t = t), Bool.true_and, eqv_same _ (SeqAt.canLay_of_shaped py.2)]
  have B4 : (M4 ++ (Ms9 ++ ([(x, MO.lst (qs.map fun q => D.ref q.s)), (y, MO.lst (qs.map fun q => D.ref q.o))] ++ (Mm ++ (Rq ++ R))))).Perm (A1 ++ (Ms9 ++ ([(x, MO.lst (qs.map fun q => D.ref q.s)), (y, MO.lst (qs.map fun q => D.ref q.o))] ++ (A2 ++ (Mm ++ (Rq ++ R)))))) := perm_mc fun u => by
    have e1 := mc_perm u3 u
    simp only [mc_app, mc_cons, mc_nil] at *; omega
  refine ⟨true, rfl, ?_⟩
  walk_at "go"
  refine IxA.seq (.mu (B4.mem_iff.mpr (by simp))) ax ?_
  obtain ⟨da, pa, la, i8⟩ := u1.ins
  obtain ⟨dc, pc, lc, iq⟩ := u2.ins
  refine ⟨⟨_, .mu (memY2 B4 i9)⟩, .own (.mu (memS B4 iq)), callM_p (C := Ms9 ++ A2) (R := A1 ++ ([(x, MO.lst (qs.map fun q => D.ref q.s)), (y, MO.lst (qs.map fun q => D.ref q.o))] ++ (Mm ++ (Rq ++ R)))) (perm_mc fun u => by
    have e1 := mc_perm B4 u
    simp only [mc_app, mc_cons, mc_nil] at *; omega) ⟨s9, .tup (S.map D.str), S, N, t + 1, m8, ps, Or.inl rfl, s1, s2, ln8, by rw [sd8]; exact py, Or.inr (Or.inl ⟨q.s, .tup (S.map D.str), S, N, t, q.m, ps, Ms9, A2, rfl, Or.inl rfl, s1, s2, by omega, py, c1, u2, List.Perm.refl _, fun A3 A4 M5 v1 v2 v3 => ?_⟩)⟩⟩
  rw [decide_eq_false (fun z : S = S ∧ N = N ∧ t + 1 = t => by have := z.2.2; omega), Bool.false_and]
  have hS5 := g4 A4 Mm (A4 ++ (Mm ++ Rq)) v2 g2 (List.Perm.refl _)
  obtain ⟨Mz, Mmz, Rz, z1, z2, z3, _⟩ := sm_out mz hS5
  have B5 : (M5 ++ (A1 ++ ([(x, MO.lst (qs.map fun q => D.ref q.s)), (y, MO.lst (qs.map fun q => D.ref q.o))] ++ (Mm ++ (Rq ++ R))))).Perm (Mz ++ (A1 ++ ([(x, MO.lst (qs.map fun q => D.ref q.s)), (y, MO.lst (qs.map fun q => D.ref q.o))] ++ (Mmz ++ (Rz ++ (A3 ++ R)))))) := perm_mc fun u => by
    have e1 := mc_perm v3 u
    have e2 := mc_perm z3 u
    simp only [mc_app, mc_cons, mc_nil] at *; omega
  refine ⟨false, rfl, ?_⟩
  walk_at "go"
  refine IxA.seq (.mu (B5.mem_iff.mpr (by simp))) az' ?_
  obtain ⟨de, pe, le, iz⟩ := z1.ins
  refine inst_m (memL B5 iz) (lkMeth (by decide +kernel)) ?_
  walk_at "go"
  refine callM_p B5 ⟨z.s, _, z.m, rfl, z1, fun M6 y1 => ?_⟩
  have B6 : (M6 ++ (A1 ++ ([(x, MO.lst (qs.map fun q => D.ref q.s)), (y, MO.lst (qs.map fun q => D.ref q.o))] ++ (Mmz ++ (Rz ++ (A3 ++ R)))))).Perm (A1 ++ (M6 ++ ([(x, MO.lst (qs.map fun q => D.ref q.s)), (y, MO.lst (qs.map fun q => D.ref q.o))] ++ (Mmz ++ (Rz ++ (A3 ++ R)))))) := perm_mc fun u => by
    simp only [mc_app, mc_cons, mc_nil] at *; omega
  walk_at "go"
  refine inst_m (memL B6 i8) (lkMeth (by decide +kernel)) ?_
  walk_at "go"
  refine callM_p B6 ⟨s8, _, m8, rfl, u1, fun M7 y2 => ?_⟩
  refine ⟨⟨_, .fr⟩, .own .fr, cm0 ⟨_, _, S, N, S, N, t, t, rfl, Or.inl rfl, Or.inl rfl, rfl, s1, s2, s1, s2, ?_⟩⟩
  rw [decide_eq_true (⟨rfl, rfl, rfl⟩ : S = S ∧ N = N ∧ t = t)]
  exact ⟨true, rfl, [], List.nil_sublist _, hp⟩
theorem law_rest_vc {a : Ad} {ns : List Int} {p x y : Addr} {S N : List Str} {t : Int} {W : Mem} {P : AK} {EX : XKA} (hT : Tongue S N) (ht : 1 ≤ t) (h : LPool 500 p (LInv a (TalkD a (.tup (S.map D.str)) N t) S N x y 0) W) (hp : P (.bl true) []) :
    law_rest a [some (.lsk (ns.map D.int)), some (.ref p), some (tonD S N), some (.int t), none, none, some (.ref x), some (.ref y), none, none] W (retK P EX) := by
  have taken : ∀ {P : AK} {EX : XKA} {p : Addr} {B : Int} {j : Nat} {W : Mem} (m : Int), B < 900000 → 0 < m → m ≤ 1000 → LPool B p (LInv a (TalkD a (.tup (S.map D.str)) N t) S N x y j) W → (∀ r W', 0 ≤ r → r < m → LPool (B + 1) p (LInv a (TalkD a (.tup (S.map D.str)) N t) S N x y j) W' → P (.int r) W') → CallM (sp_l_take a) [.ref p, .int m] W P EX := by
    intro P EX p B j W m hB m0 m1 ⟨l, M0, hl, hi, hM⟩ post
    exact callM_p hM ⟨p, l, B, m, rfl, rfl, hl, by omega, m0, by omega, fun r l' r0 r1 hl' => post r _ r0 r1 ⟨l', M0, hl', hi, List.Perm.refl _⟩⟩
  unfold law_rest
  walk_at "go"
  refine taken 10 (by omega) (by omega) (by omega) h fun r W1 r0 r1 h1 => ?_
  walk_at "go"
  refine ⟨fun i ρ' M' => ∃ x4 : Option D, ρ' = [some (.lsk (ns.map D.int)), some (.ref p), some (tonD S N), some (.int t), x4, none, some (.ref x), some (.ref y), none, none] ∧ LPool (501 + 7300 * i) p (LInv a (TalkD a (.tup (S.map D.str)) N t) S N x y i) M', ⟨none, rfl, by simpa using h1⟩, fun i d ρ' M' hx hj => ?_, fun ρ' M' hj => ?_⟩
  · obtain ⟨x4, rfl, hi⟩ := hj
    have hb := (rngD_get hx).1
    walk_at "go"
    refine lturn hT (by omega) (by omega) hi fun M'' h'' => ?_
    walk_at "go"
    refine ⟨_, rfl, ?_⟩
    obtain ⟨l, M0, hl, hi, hM⟩ := h''
    exact ⟨l, M0, Pool_mono hl (by push_cast; omega) (by push_cast; omega), hi, hM⟩
  · obtain ⟨x4, rfl, l, M0, hl, hi, hM⟩ := hj
    rw [rngD_length] at hi
    have hi0 : LInv a (TalkD a (.tup (S.map D.str)) N t) S N x y 15 M' := (hi.cons hM).up (by omega)
    walk_at "go"
    have hr : 0 ≤ (if ((ns.map D.int).length : Int) < 63 then ((ns.map D.int).length : Int) else 63) ∧ (if ((ns.map D.int).length : Int) < 63 then ((ns.map D.int).length : Int) else 63) ≤ 63 := by split <;> omega
    generalize (if ((ns.map D.int).length : Int) < 63 then ((ns.map D.int).length : Int) else 63) = top at hr
    refine ⟨1, top, rfl, ⟨by omega, by omega, by omega, by omega⟩, ?_⟩
    refine ⟨fun i ρ' M' => ∃ (p : Addr) (x4 x5 : Option D), ρ' = [some (.lsk (ns.map D.int)), some (.ref p), some (tonD S N), some (.int t), x4, x5, some (.ref x), some (.ref y), none, none] ∧ LInv a (TalkD a (.tup (S.map D.str)) N t) S N x y (15 + 2 * i) M', ⟨p, x4, none, rfl, hi0⟩, fun i d ρ' M' hx hj => ?_, fun ρ' M' hj => ?_⟩
    · obtain ⟨p0, x4, x5, rfl, hi⟩ := hj
      obtain ⟨hb, rfl⟩ := rngD_get hx
      walk_at "go"
      refine cm0 ⟨ns, 1 + i, rfl, rfl, by omega, by omega, fun q l hl => ?_⟩
      have h2 : LPool (7919 * (1 + (i : Int)) + 1) q (LInv a (TalkD a (.tup (S.map D.str)) N t) S N x y (15 + 2 * i)) ([(q, .lst l)] ++ M') := ⟨l, M', hl, hi, List.Perm.refl _⟩
      walk_at "go"
      refine taken 2 (by omega) (by omega) (by omega) h2 fun r W1 r0 r1 h1 => ?_
      walk_at "go"
      refine ⟨fun m ρ' M' => ∃ x4 : Option D, ρ' = [some (.lsk (ns.map D.int)), some (.ref q), some (tonD S N), some (.int t), x4, some (.int (1 + (i : Int))), some (.ref x), some (.ref y), none, none] ∧ LPool (7919 * (1 + (i : Int)) + 2 + 7300 * m) q (LInv a (TalkD a (.tup (S.map D.str)) N t) S N x y (15 + 2 * i + m)) M', ⟨x4, rfl, ?_⟩, fun m d ρ' M' hx hj => ?_, fun ρ' M' hj => ?_⟩
      · obtain ⟨l, M0, hl, hi, hM⟩ := h1
        exact ⟨l, M0, Pool_mono hl (by omega) (by omega), hi, hM⟩
      · obtain ⟨x4, rfl, hi⟩ := hj
        have hb2 := (rngD_get hx).1
        walk_at "go"
        refine lturn hT (by omega) (by omega) hi fun M'' h'' => ?_
        walk_at "go"
        refine ⟨_, rfl, ?_⟩
        obtain ⟨l, M0, hl, hi, hM⟩ := h''
        exact ⟨l, M0, Pool_mono hl (by push_cast; omega) (by push_cast; omega), hi, hM⟩
      · obtain ⟨x4, rfl, l, M0, hl, hi, hM⟩ := hj
        rw [rngD_length] at hi
        walk_at "go"
        exact ⟨q, _, _, rfl, (hi.cons hM).up (by omega)⟩
    · obtain ⟨p0, x4, x5, rfl, hi⟩ := hj
      rw [rngD_length] at hi
      exact law_end_vc hT ht (by omega) hi hp
theorem vc_law (a : Ad) : ∀ ds M P EX, sp_law a ds M P EX → t_law a (startA N_law ds) M (retK P EX) := by
  intro ds M P EX ⟨ns, hd, hM, hp⟩
  subst hd hM
  unfold t_law
  show (aSeq _ _) [some (.lsk (ns.map D.int)), none, none, none, none, none, none, none, none, none] _ _
  walk_at "go"
  refine cm0 ⟨ns, 0, rfl, rfl, by omega, by omega, fun p l hl => ?_⟩
  walk_at "go"
  refine cmA ⟨p, l, 7919 * 0 + 1, rfl, rfl, hl, by omega, fun S N l1 hT hl1 => ?_⟩
  walk_at "go"
  refine cmA ⟨p, l1, 7919 * 0 + 1 + 400, 20, rfl, rfl, hl1, by omega, by omega, by omega, fun r l2 r0 r1 hl2 => ?_⟩
  obtain ⟨t, ht⟩ : ∃ t, 1 + r = t := ⟨_, rfl⟩
  walk_at "go"
  rw [ht]
  have e : tonD S N = .tup [.tpn (S.map D.str), .tpn (N.map D.str)] := rfl
  have key : ∀ (W : Mem) (x y : Addr), LPool 500 p (LInv a (TalkD a (.tup (S.map D.str)) N t) S N x y 0) W → law_rest a [some (.lsk (ns.map D.int)), some (.ref p), some (tonD S N), some (.int t), none, none, some (.ref x), some (.ref y), none, none] W (retK P EX) :=
    fun W x y h => law_rest_vc hT (by omega) h hp
  unfold tonD at *
  walk_at "go"
  intro x8 hx8
  refine mk_talk hT (by omega) x8 ⟨rfl, ?_⟩
  rw [if_neg (by simp)]
  refine ⟨_, _, split_head, ?_⟩
  walk_at "go"
  intro s hs
  refine mk_store s fun Ms hMs => ⟨rfl, ?_⟩
  rw [if_pos rfl]
  walk_at "go"
  intro x hx
  walk_at "go"
  refine cm0 ⟨rfl, rfl, fun o Mm hMm => ?_⟩
  walk_at "go"
  intro y hy
  refine aNil_r (par_r ?_)
  refine key _ x y ⟨l2, _, Pool_mono hl2 (by omega) (by omega), ⟨[⟨s, o, ⟨[], 0, [], []⟩⟩], Ms ++ (Mm ++ []), [], by simp, by simp, fun q hq => by rw [List.mem_singleton.mp hq]; exact md0, ⟨Ms, Mm, [], hMs, hMm, rfl, List.Perm.refl _⟩, List.Perm.refl _⟩, perm_mc fun u => by
    simp only [List.map_cons, List.map_nil, mc_app, mc_cons, mc_nil]; omega⟩
end K84a
set_option maxRecDepth 100000
set_option maxHeartbeats 0
namespace K84a
open PySem PySem.Spec L2 PyProof.Rows Ab
def adOf (K : PySem.W.Frag) : Ad := ⟨He.ga K "JOINS", He.ga K "NoTalk", He.ga K "Store", He.ga K "Talk", He.ga K "WORDS_terms"⟩
theorem facts {P : Program} {w : World} {K : PySem.W.Frag} {h : Heap} {mg : Str → Option Value} {f : Addr} (X : K.In h) (G : h.Ns mainGlobals mg) (hfa : mg ("law" : Str) = some (.ref f)) (xt : (xs.all fun x => x.ok K) = true) (cw : He.SaysT fa fn tsL w K) :
    ∃ fd : FuncData, (∀ (s : Shared) (v : Value), BindsTo s fd ⟨[v], []⟩ [("_law_script", v)]) ∧ ∀ base : Heap, K.In base → base.Ns mainGlobals mg → FnAt P w K mg base (L2.CX P w) 31 callerA f fd ["_law_script"] (spOf K (sp_law (adOf K))) := by
  have c := cw.d
  have F : Fx P w K mg (adOf K) := {
    tb_WORDS_terms := tab_says cw 0 rfl (yat xt 0 (x := .vals "WORDS_terms" tabL0) rfl)
    tb_JOINS := tab_says cw 1 rfl (yat xt 1 (x := .vals "JOINS" tabL1) rfl)
    oi_Store := xowni (He.cls_ok (c.fact 0 (f := .cls "Store") rfl)) (yat xt 2 (x := .owni "Store") rfl)
    oi_Talk := xowni (He.cls_ok (c.fact 1 (f := .cls "Talk") rfl)) (yat xt 3 (x := .owni "Talk") rfl)
    si_Store := xsub (yat xt 4 (x := .sub "int" "Store") rfl)
    ss_Store := xsub (yat xt 5 (x := .sub "str" "Store") rfl)
    sd_Store := xsub (yat xt 6 (x := .sub "dict" "Store") rfl)
    si_Talk := xsub (yat xt 7 (x := .sub "int" "Talk") rfl)
    ss_Talk := xsub (yat xt 8 (x := .sub "str" "Talk") rfl)
    sd_Talk := xsub (yat xt 9 (x := .sub "dict" "Talk") rfl)
    b_all := He.free_ok X G (c.fact 2 (f := .free "all") rfl)
    b_any := He.free_ok X G (c.fact 3 (f := .free "any") rfl)
    b_bool := He.free_ok X G (c.fact 4 (f := .free "bool") rfl)
    b_dict := He.free_ok X G (c.fact 5 (f := .free "dict") rfl)
    b_int := He.free_ok X G (c.fact 6 (f := .free "int") rfl)
    b_isinstance := He.free_ok X G (c.fact 7 (f := .free "isinstance") rfl)
    b_len := He.free_ok X G (c.fact 8 (f := .free "len") rfl)
    b_list := He.free_ok X G (c.fact 9 (f := .free "list") rfl)
    b_max := He.free_ok X G (c.fact 10 (f := .free "max") rfl)
    b_min := He.free_ok X G (c.fact 11 (f := .free "min") rfl)
    b_range := He.free_ok X G (c.fact 12 (f := .free "range") rfl)
    b_repr := He.free_ok X G (c.fact 13 (f := .free "repr") rfl)
    b_sorted := He.free_ok X G (c.fact 14 (f := .free "sorted") rfl)
    b_str := He.free_ok X G (c.fact 15 (f := .free "str") rfl)
    b_sum := He.free_ok X G (c.fact 16 (f := .free "sum") rfl)
    b_tuple := He.free_ok X G (c.fact 17 (f := .free "tuple") rfl)
    b_zip := He.free_ok X G (c.fact 18 (f := .free "zip") rfl)
    c_ADDENDS := He.int_ok X G (c.fact 19 (f := .int "ADDENDS" 12) rfl)
    c_DEEPEST := He.int_ok X G (c.fact 20 (f := .int "DEEPEST" 12) rfl)
    c_DEPTH := He.int_ok X G (c.fact 21 (f := .int "DEPTH" 6) rfl)
    c_LETTERS := He.str_ok X G (c.fact 22 (f := .str "LETTERS" "abcdefghijklmnopqrstuvwxyz") rfl)
    c_LONGEST := He.int_ok X G (c.fact 23 (f := .int "LONGEST" 8) rfl)
    c_MANY := He.int_ok X G (c.fact 24 (f := .int "MANY" 32) rfl)
    c_MOST_NUMBERS := He.int_ok X G (c.fact 25 (f := .int "MOST_NUMBERS" 2) rfl)
    c_MOST_PARTS := He.int_ok X G (c.fact 26 (f := .int "MOST_PARTS" 100) rfl)
    c_MOST_SETS := He.int_ok X G (c.fact 27 (f := .int "MOST_SETS" 3) rfl)
    c_STANDING := He.int_ok X G (c.fact 28 (f := .int "STANDING" 12) rfl)
    c_WORDS_sayings := He.int_ok X G (c.fact 29 (f := .int "WORDS_sayings" 24) rfl)
    g_JOINS := He.glo_ok X G (c.fact 30 (f := .glo "JOINS") rfl)
    g_NoTalk := He.glo_ok X G (c.fact 31 (f := .glo "NoTalk") rfl)
    g_Store := He.glo_ok X G (c.fact 32 (f := .glo "Store") rfl)
    k_Store := He.cls_ok (c.fact 0 (f := .cls "Store") rfl)
    g_Talk := He.glo_ok X G (c.fact 33 (f := .glo "Talk") rfl)
    k_Talk := He.cls_ok (c.fact 1 (f := .cls "Talk") rfl)
    g_WORDS_terms := He.glo_ok X G (c.fact 34 (f := .glo "WORDS_terms") rfl)
    n_Store_laid := He.noat_ok (c.fact 35 (f := .noat "Store" "laid") rfl)
    n_Store_piles := He.noat_ok (c.fact 36 (f := .noat "Store" "piles") rfl)
    n_Store_said := He.noat_ok (c.fact 37 (f := .noat "Store" "said") rfl)
    n_Store_spent := He.noat_ok (c.fact 38 (f := .noat "Store" "spent") rfl)
    n_Store_spoken_in := He.noat_ok (c.fact 39 (f := .noat "Store" "spoken_in") rfl)
    n_Talk_number_names := He.noat_ok (c.fact 40 (f := .noat "Talk" "number_names") rfl)
    n_Talk_set_names := He.noat_ok (c.fact 41 (f := .noat "Talk" "set_names") rfl)
    n_Talk_top := He.noat_ok (c.fact 42 (f := .noat "Talk" "top") rfl)
    x_NoTalk := (yexb (yat xt 10 (x := .exb "NoTalk" veB "ValueError.__new__") rfl)).1
    p_NoTalk := (yexb (yat xt 10 (x := .exb "NoTalk" veB "ValueError.__new__") rfl)).2.1
    e_NoTalk := (yexb (yat xt 10 (x := .exb "NoTalk" veB "ValueError.__new__") rfl)).2.2.1
    t_NoTalk := (yexb (yat xt 10 (x := .exb "NoTalk" veB "ValueError.__new__") rfl)).2.2.2 }
  obtain ⟨fd_is_whole, D_is_whole⟩ := c.def_ 0 (d := d_is_whole) rfl
  obtain ⟨fd_is_name, D_is_name⟩ := c.def_ 1 (d := d_is_name) rfl
  obtain ⟨fd_are_names, D_are_names⟩ := c.def_ 2 (d := d_are_names) rfl
  obtain ⟨fd_Talk_init, D_Talk_init⟩ := c.def_ 3 (d := d_Talk_init) rfl
  obtain ⟨fd_Talk_sets, D_Talk_sets⟩ := c.def_ 4 (d := d_Talk_sets) rfl
  obtain ⟨fd_Talk_numbers, D_Talk_numbers⟩ := c.def_ 5 (d := d_Talk_numbers) rfl
  obtain ⟨fd_Talk_eq, D_Talk_eq⟩ := c.def_ 6 (d := d_Talk_eq) rfl
  obtain ⟨fd_parts_of, D_parts_of⟩ := c.def_ 7 (d := d_parts_of) rfl
  obtain ⟨fd_is_term, D_is_term⟩ := c.def_ 8 (d := d_is_term) rfl
  obtain ⟨fd_is_addend, D_is_addend⟩ := c.def_ 9 (d := d_is_addend) rfl
  obtain ⟨fd_is_sum, D_is_sum⟩ := c.def_ 10 (d := d_is_sum) rfl
  obtain ⟨fd_counts_of, D_counts_of⟩ := c.def_ 11 (d := d_counts_of) rfl
  obtain ⟨fd_cases_many, D_cases_many⟩ := c.def_ 12 (d := d_cases_many) rfl
  obtain ⟨fd_is_plain, D_is_plain⟩ := c.def_ 13 (d := d_is_plain) rfl
  obtain ⟨fd_words_in, D_words_in⟩ := c.def_ 14 (d := d_words_in) rfl
  obtain ⟨fd_is_saying, D_is_saying⟩ := c.def_ 15 (d := d_is_saying) rfl
  obtain ⟨fd_Store_init, D_Store_init⟩ := c.def_ 16 (d := d_Store_init) rfl
  obtain ⟨fd_Store_all_said, D_Store_all_said⟩ := c.def_ 17 (d := d_Store_all_said) rfl
  obtain ⟨fd_Store_put_in, D_Store_put_in⟩ := c.def_ 18 (d := d_Store_put_in) rfl
  obtain ⟨fd_Store_say, D_Store_say⟩ := c.def_ 19 (d := d_Store_say) rfl
  obtain ⟨fd_Store_say_all, D_Store_say_all⟩ := c.def_ 20 (d := d_Store_say_all) rfl
  obtain ⟨fd_Store_drop, D_Store_drop⟩ := c.def_ 21 (d := d_Store_drop) rfl
  obtain ⟨fd_Store_mark, D_Store_mark⟩ := c.def_ 22 (d := d_Store_mark) rfl
  obtain ⟨fd_Store_back, D_Store_back⟩ := c.def_ 23 (d := d_Store_back) rfl
  obtain ⟨fd_Store_standing, D_Store_standing⟩ := c.def_ 24 (d := d_Store_standing) rfl
  obtain ⟨fd_Store_log, D_Store_log⟩ := c.def_ 25 (d := d_Store_log) rfl
  obtain ⟨fd_Store_talk, D_Store_talk⟩ := c.def_ 26 (d := d_Store_talk) rfl
  obtain ⟨fd_Store_twin, D_Store_twin⟩ := c.def_ 27 (d := d_Store_twin) rfl
  obtain ⟨fd_Store_eq, D_Store_eq⟩ := c.def_ 28 (d := d_Store_eq) rfl
  obtain ⟨fd_Store_len, D_Store_len⟩ := c.def_ 29 (d := d_Store_len) rfl
  obtain ⟨fd_Store_repr, D_Store_repr⟩ := c.def_ 30 (d := d_Store_repr) rfl
  obtain ⟨fd_l_pool, D_l_pool⟩ := c.def_ 31 (d := d_l_pool) rfl
  obtain ⟨fd_l_take, D_l_take⟩ := c.def_ 32 (d := d_l_take) rfl
  obtain ⟨fd_l_names, D_l_names⟩ := c.def_ 33 (d := d_l_names) rfl
  obtain ⟨fd_l_tongue, D_l_tongue⟩ := c.def_ 34 (d := d_l_tongue) rfl
  obtain ⟨fd_l_signed, D_l_signed⟩ := c.def_ 35 (d := d_l_signed) rfl
  obtain ⟨fd_l_term, D_l_term⟩ := c.def_ 36 (d := d_l_term) rfl
  obtain ⟨fd_l_sum, D_l_sum⟩ := c.def_ 37 (d := d_l_sum) rfl
  obtain ⟨fd_l_leaf, D_l_leaf⟩ := c.def_ 38 (d := d_l_leaf) rfl
  obtain ⟨fd_l_saying, D_l_saying⟩ := c.def_ 39 (d := d_l_saying) rfl
  obtain ⟨fd_l_cases_many, D_l_cases_many⟩ := c.def_ 40 (d := d_l_cases_many) rfl
  obtain ⟨fd_l_cases_all, D_l_cases_all⟩ := c.def_ 41 (d := d_l_cases_all) rfl
  obtain ⟨fd_l_model, D_l_model⟩ := c.def_ 42 (d := d_l_model) rfl
  obtain ⟨fd_l_look, D_l_look⟩ := c.def_ 43 (d := d_l_look) rfl
  obtain ⟨fd_l_copy, D_l_copy⟩ := c.def_ 44 (d := d_l_copy) rfl
  obtain ⟨fd_l_alike, D_l_alike⟩ := c.def_ 45 (d := d_l_alike) rfl
  obtain ⟨fd_l_claims, D_l_claims⟩ := c.def_ 46 (d := d_l_claims) rfl
  obtain ⟨fd_l_step, D_l_step⟩ := c.def_ 47 (d := d_l_step) rfl
  obtain ⟨fd_l_turn, D_l_turn⟩ := c.def_ 48 (d := d_l_turn) rfl
  obtain ⟨fd_law, D_law⟩ := c.def_ 49 (d := d_law) rfl
  have e := hfa.symm.trans (He.glo_ok X G (c.fact 43 (f := .glo "law") rfl))
  cases e
  have b := FunD.bindsA (ps := ["_law_script"]) D_law fun _ _ _ _ _ _ us hl => match us, hl with | [_], _ => rfl
  refine ⟨fd_law, fun s v => b s [v] rfl, fun base _ _ => ?_⟩
  have G_is_whole : FnOk P w K mg base (L2.CX P w) 1 _ fd_is_whole ["thing", "least", "most"] (spOf K (sp_is_whole (adOf K))) := afn D_is_whole sc_is_whole (fun ds M P EX h => by unfold sp_is_whole at h; repeat' (first | (subst_vars; rfl) | (refine Or.elim h (fun h => ?_) (fun h => ?_)) | (obtain ⟨_, h⟩ := h))) (fun cdv A outer s H E hr => den_is_whole F  hr) (vc_is_whole _)
  have h_is_whole_l : Fn1 P w K mg base "is_whole" 1 ["least"] 1 1 (fun ds es => ds ++ es ++ [.non]) (sp_is_whole (adOf K)) := ⟨_, _, _, G_is_whole, He.glo_ok X G (c.fact 44 (f := .glo "is_whole") rfl), D_is_whole.kp, (by obtain ⟨mv, B⟩ := kbinds0 (K := K) (ps := ["thing", "least", "most"]) D_is_whole 1 ["least"] [("most", .non)] (fun us mv ws => us ++ ws ++ mv) (by simp [He.DefD.kws, d_is_whole]) (fun q h => by simp [He.DefD.kws, d_is_whole, He.Dv.v] at h ⊢; exact Or.inr h) (fun h1 h2 h3 => (h1.append h3).append h2) (fun D doc pm an cdv ct us mv ws h1 h2 h3 => match us, mv, ws, h1, h2, h3 with | [_], [_], [_], _, _, _ => ⟨_, _, _, _, _, _, rfl, rfl, rfl⟩); exact kb_n B (fun _ _ _ _ _ _ _ _ d1 d2 => (d1.append d2).append (.cons .non .nil)))⟩
  have h_is_whole_n : Fn1 P w K mg base "is_whole" 1 [] 1 0 (fun ds es => ds ++ [.non, .non]) (sp_is_whole (adOf K)) := ⟨_, _, _, G_is_whole, He.glo_ok X G (c.fact 44 (f := .glo "is_whole") rfl), D_is_whole.kp, (by obtain ⟨mv, B⟩ := kbinds0 (K := K) (ps := ["thing", "least", "most"]) D_is_whole 1 [] [("least", .non), ("most", .non)] (fun us mv ws => us ++ mv) (by simp [He.DefD.kws, d_is_whole]) (fun q h => by simpa [He.DefD.kws, d_is_whole, He.Dv.v] using h) (fun h1 h2 _ => h1.append h2) (fun D doc pm an cdv ct us mv ws h1 h2 h3 => match us, mv, ws, h1, h2, h3 with | [_], [_, _], [], _, _, _ => ⟨_, _, _, _, _, _, rfl, rfl, _, _, _, _, _, _, rfl, rfl, rfl⟩); exact kb_n B (fun _ _ _ _ _ _ _ _ d1 d2 => d1.append (.cons .non (.cons .non .nil))))⟩
  have G_is_name : FnOk P w K mg base (L2.CX P w) 1 _ fd_is_name ["thing"] (spOf K (sp_is_name (adOf K))) := afn D_is_name sc_is_name (fun ds M P EX h => by unfold sp_is_name at h; repeat' (first | (subst_vars; rfl) | (refine Or.elim h (fun h => ?_) (fun h => ?_)) | (obtain ⟨_, h⟩ := h))) (fun cdv A outer s H E hr => den_is_name F  hr) (vc_is_name _)
  have h_is_name : Fn1 P w K mg base "is_name" 1 [] 1 0 (fun ds _ => ds) (sp_is_name (adOf K)) := fn1_plain G_is_name D_is_name (He.glo_ok X G (c.fact 45 (f := .glo "is_name") rfl)) rfl (fun _ _ _ _ _ _ us hl => match us, hl with | [_], _ => rfl)
  have G_are_names : FnOk P w K mg base (L2.CX P w) 2 _ fd_are_names ["thing", "many"] (spOf K (sp_are_names (adOf K))) := afn D_are_names sc_are_names (fun ds M P EX h => by unfold sp_are_names at h; repeat' (first | (subst_vars; rfl) | (refine Or.elim h (fun h => ?_) (fun h => ?_)) | (obtain ⟨_, h⟩ := h))) (fun cdv A outer s H E hr => den_are_names F h_is_name hr) (vc_are_names _)
  have h_are_names : Fn1 P w K mg base "are_names" 2 [] 2 0 (fun ds _ => ds) (sp_are_names (adOf K)) := fn1_plain G_are_names D_are_names (He.glo_ok X G (c.fact 46 (f := .glo "are_names") rfl)) rfl (fun _ _ _ _ _ _ us hl => match us, hl with | [_, _], _ => rfl)
  have G_Talk_init : FnOk P w K mg base (L2.CX P w) 3 _ fd_Talk_init ["self", "sets", "numbers", "most"] (spOf K (sp_Talk_init (adOf K))) := afn D_Talk_init sc_Talk_init (fun ds M P EX h => by unfold sp_Talk_init at h; repeat' (first | (subst_vars; rfl) | (refine Or.elim h (fun h => ?_) (fun h => ?_)) | (obtain ⟨_, h⟩ := h))) (fun cdv A outer s H E hr => den_Talk_init F h_are_names h_is_whole_l hr) (vc_Talk_init _)
  have h_Talk_m : Mk1 P w K mg base "Talk" (adOf K).Talk 3 ["most"] 2 1 (fun ds es => ds ++ es) (sp_Talk_init (adOf K)) := ⟨_, _, _, G_Talk_init, (He.mkr_ok (c.fact 47 (f := .mkr "Talk") rfl)), F.g_Talk, (by obtain ⟨its, mv, B⟩ := FunD.kbinds (K := K) (ps := ["self", "sets", "numbers", "most"]) D_Talk_init 3 ["most"] [] (fun us _ _ ws => us ++ ws) (by simp [He.DefD.dvs, d_Talk_init]) (by simp [He.DefD.kws, d_Talk_init]) (fun q h => nomatch h) (fun h1 _ _ h4 => h1.append h4) (fun T D doc pm an cdv ct us its mv ws h1 h2 h3 h4 => match us, its, mv, ws, h1, h2, h3, h4 with | [_, _, _], [_, _], [], [_], _, _, _, _ => ⟨_, rfl, rfl⟩); exact km_n (n := 2) (gU' := fun us ws => us ++ ws) (gV' := fun vs zs => vs ++ zs) B (fun _ _ _ => rfl) (fun _ _ _ => rfl) (fun _ _ _ _ _ _ _ _ d1 d2 => d1.append d2))⟩
  have G_Talk_sets : FnOk P w K mg base (L2.CX P w) 1 _ fd_Talk_sets ["self"] (spOf K (sp_Talk_sets (adOf K))) := afn D_Talk_sets sc_Talk_sets (fun ds M P EX h => by unfold sp_Talk_sets at h; repeat' (first | (subst_vars; rfl) | (refine Or.elim h (fun h => ?_) (fun h => ?_)) | (obtain ⟨_, h⟩ := h))) (fun cdv A outer s H E hr => den_Talk_sets F  hr) (vc_Talk_sets _)
  have h_Talk_sets : Mt1 P w K mg base (adOf K).Talk "sets" 1 [] 1 0 (fun ds _ => ds) (sp_Talk_sets (adOf K)) := mt1_plain G_Talk_sets D_Talk_sets F.k_Talk (He.meth_ok (c.fact 48 (f := .meth "Talk" "sets") rfl)) rfl (fun _ _ _ _ _ _ us hl => match us, hl with | [_], _ => rfl)
  have G_Talk_numbers : FnOk P w K mg base (L2.CX P w) 1 _ fd_Talk_numbers ["self"] (spOf K (sp_Talk_numbers (adOf K))) := afn D_Talk_numbers sc_Talk_numbers (fun ds M P EX h => by unfold sp_Talk_numbers at h; repeat' (first | (subst_vars; rfl) | (refine Or.elim h (fun h => ?_) (fun h => ?_)) | (obtain ⟨_, h⟩ := h))) (fun cdv A outer s H E hr => den_Talk_numbers F  hr) (vc_Talk_numbers _)
  have h_Talk_numbers : Mt1 P w K mg base (adOf K).Talk "numbers" 1 [] 1 0 (fun ds _ => ds) (sp_Talk_numbers (adOf K)) := mt1_plain G_Talk_numbers D_Talk_numbers F.k_Talk (He.meth_ok (c.fact 49 (f := .meth "Talk" "numbers") rfl)) rfl (fun _ _ _ _ _ _ us hl => match us, hl with | [_], _ => rfl)
  have G_Talk_eq : FnOk P w K mg base (L2.CX P w) 1 _ fd_Talk_eq ["self", "other"] (spOf K (sp_Talk_eq (adOf K))) := afn D_Talk_eq sc_Talk_eq (fun ds M P EX h => by unfold sp_Talk_eq at h; repeat' (first | (subst_vars; rfl) | (refine Or.elim h (fun h => ?_) (fun h => ?_)) | (obtain ⟨_, h⟩ := h))) (fun cdv A outer s H E hr => den_Talk_eq F  hr) (vc_Talk_eq _)
  have ho_Talk_eq : Own1 P w K mg base (adOf K).Talk "__eq__" 1 2 (sp_Talk_eq (adOf K)) := own1_of G_Talk_eq D_Talk_eq (He.meth_ok (c.fact 50 (f := .meth "Talk" "__eq__") rfl)) rfl (fun _ _ _ _ _ _ us hl => match us, hl with | [_, _], _ => rfl)
  have R_parts_of : ∀ n : Nat, Fn1 P w K mg base "parts_of" (1 + n) [] 3 0 (fun ds _ => ds) (sp_parts_of n (adOf K)) := fun n => by
    induction n with
    | zero => exact fn1_of (ps := ["talk", "thing", "left"]) (fnOk_no fun ds M P EX h => by unfold sp_parts_of at h; (repeat (obtain ⟨_, h⟩ := h)); first | omega | (simp_all [cnB]; done)) D_parts_of (He.glo_ok X G (c.fact 51 (f := .glo "parts_of") rfl)) rfl (fun _ _ _ _ _ _ us hl => match us, hl with | [_, _, _], _ => rfl)
    | succ n ih => exact fn1_of (k := 1 + n + 1) (afn D_parts_of sc_parts_of (fun ds M P EX h => by unfold sp_parts_of at h; repeat' (first | (subst_vars; rfl) | (refine Or.elim h (fun h => ?_) (fun h => ?_)) | (obtain ⟨_, h⟩ := h))) (fun cdv A outer s H E hr => den_parts_of F h_Talk_sets ih hr) (vc_parts_of n _)) D_parts_of (He.glo_ok X G (c.fact 51 (f := .glo "parts_of") rfl)) rfl (fun _ _ _ _ _ _ us hl => match us, hl with | [_, _, _], _ => rfl)
  have h_parts_of := R_parts_of 13
  have G_is_term : FnOk P w K mg base (L2.CX P w) 15 _ fd_is_term ["talk", "thing"] (spOf K (sp_is_term (adOf K))) := afn D_is_term sc_is_term (fun ds M P EX h => by unfold sp_is_term at h; repeat' (first | (subst_vars; rfl) | (refine Or.elim h (fun h => ?_) (fun h => ?_)) | (obtain ⟨_, h⟩ := h))) (fun cdv A outer s H E hr => den_is_term F h_parts_of hr) (vc_is_term _)
  have h_is_term : Fn1 P w K mg base "is_term" 15 [] 2 0 (fun ds _ => ds) (sp_is_term (adOf K)) := fn1_plain G_is_term D_is_term (He.glo_ok X G (c.fact 52 (f := .glo "is_term") rfl)) rfl (fun _ _ _ _ _ _ us hl => match us, hl with | [_, _], _ => rfl)
  have G_is_addend : FnOk P w K mg base (L2.CX P w) 16 _ fd_is_addend ["talk", "thing"] (spOf K (sp_is_addend (adOf K))) := afn D_is_addend sc_is_addend (fun ds M P EX h => by unfold sp_is_addend at h; repeat' (first | (subst_vars; rfl) | (refine Or.elim h (fun h => ?_) (fun h => ?_)) | (obtain ⟨_, h⟩ := h))) (fun cdv A outer s H E hr => den_is_addend F h_is_whole_n h_Talk_numbers h_is_term hr) (vc_is_addend _)
  have h_is_addend : Fn1 P w K mg base "is_addend" 16 [] 2 0 (fun ds _ => ds) (sp_is_addend (adOf K)) := fn1_plain G_is_addend D_is_addend (He.glo_ok X G (c.fact 53 (f := .glo "is_addend") rfl)) rfl (fun _ _ _ _ _ _ us hl => match us, hl with | [_, _], _ => rfl)
  have G_is_sum : FnOk P w K mg base (L2.CX P w) 17 _ fd_is_sum ["talk", "thing"] (spOf K (sp_is_sum (adOf K))) := afn D_is_sum sc_is_sum (fun ds M P EX h => by unfold sp_is_sum at h; repeat' (first | (subst_vars; rfl) | (refine Or.elim h (fun h => ?_) (fun h => ?_)) | (obtain ⟨_, h⟩ := h))) (fun cdv A outer s H E hr => den_is_sum F h_is_addend hr) (vc_is_sum _)
  have h_is_sum : Fn1 P w K mg base "is_sum" 17 [] 2 0 (fun ds _ => ds) (sp_is_sum (adOf K)) := fn1_plain G_is_sum D_is_sum (He.glo_ok X G (c.fact 54 (f := .glo "is_sum") rfl)) rfl (fun _ _ _ _ _ _ us hl => match us, hl with | [_, _], _ => rfl)
  have R_counts_of : ∀ n : Nat, Fn1 P w K mg base "counts_of" (0 + n) [] 1 0 (fun ds _ => ds) (sp_counts_of n (adOf K)) := fun n => by
    induction n with
    | zero => exact fn1_of (ps := ["saying"]) (fnOk_no fun ds M P EX h => by unfold sp_counts_of at h; (repeat (obtain ⟨_, h⟩ := h)); first | omega | (simp_all [cnB]; done)) D_counts_of (He.glo_ok X G (c.fact 55 (f := .glo "counts_of") rfl)) rfl (fun _ _ _ _ _ _ us hl => match us, hl with | [_], _ => rfl)
    | succ n ih => exact fn1_of (k := 0 + n + 1) (afn D_counts_of sc_counts_of (fun ds M P EX h => by unfold sp_counts_of at h; repeat' (first | (subst_vars; rfl) | (refine Or.elim h (fun h => ?_) (fun h => ?_)) | (obtain ⟨_, h⟩ := h))) (fun cdv A outer s H E hr => den_counts_of F ih hr) (vc_counts_of n _)) D_counts_of (He.glo_ok X G (c.fact 55 (f := .glo "counts_of") rfl)) rfl (fun _ _ _ _ _ _ us hl => match us, hl with | [_], _ => rfl)
  have h_counts_of := R_counts_of 6
  have G_cases_many : FnOk P w K mg base (L2.CX P w) 7 _ fd_cases_many ["sayings", "turned"] (spOf K (sp_cases_many (adOf K))) := afn D_cases_many sc_cases_many (fun ds M P EX h => by unfold sp_cases_many at h; repeat' (first | (subst_vars; rfl) | (refine Or.elim h (fun h => ?_) (fun h => ?_)) | (obtain ⟨_, h⟩ := h))) (fun cdv A outer s H E hr => den_cases_many F h_counts_of hr) (vc_cases_many _)
  have h_cases_many_d : Fn1 P w K mg base "cases_many" 7 [] 1 0 (fun ds es => ds ++ [.bl false]) (sp_cases_many (adOf K)) := ⟨_, _, _, G_cases_many, He.glo_ok X G (c.fact 56 (f := .glo "cases_many") rfl), D_cases_many.kp, (by obtain ⟨mv, B⟩ := kbinds0 (K := K) (ps := ["sayings", "turned"]) D_cases_many 1 [] [("turned", .bl false)] (fun us mv ws => us ++ mv) (by simp [He.DefD.kws, d_cases_many]) (fun q h => by simpa [He.DefD.kws, d_cases_many, He.Dv.v] using h) (fun h1 h2 _ => h1.append h2) (fun D doc pm an cdv ct us mv ws h1 h2 h3 => match us, mv, ws, h1, h2, h3 with | [_], [_], [], _, _, _ => ⟨_, _, _, _, _, _, rfl, rfl, rfl⟩); exact kb_n B (fun _ _ _ _ _ _ _ _ d1 d2 => d1.append (.cons (.bl false) .nil)))⟩
  have G_is_plain : FnOk P w K mg base (L2.CX P w) 18 _ fd_is_plain ["talk", "word", "parts"] (spOf K (sp_is_plain (adOf K))) := afn D_is_plain sc_is_plain (fun ds M P EX h => by unfold sp_is_plain at h; repeat' (first | (subst_vars; rfl) | (refine Or.elim h (fun h => ?_) (fun h => ?_)) | (obtain ⟨_, h⟩ := h))) (fun cdv A outer s H E hr => den_is_plain F h_is_term h_is_whole_l h_is_sum hr) (vc_is_plain _)
  have h_is_plain : Fn1 P w K mg base "is_plain" 18 [] 3 0 (fun ds _ => ds) (sp_is_plain (adOf K)) := fn1_plain G_is_plain D_is_plain (He.glo_ok X G (c.fact 57 (f := .glo "is_plain") rfl)) rfl (fun _ _ _ _ _ _ us hl => match us, hl with | [_, _, _], _ => rfl)
  have R_words_in : ∀ n : Nat, Fn1 P w K mg base "words_in" (18 + n) [] 3 0 (fun ds _ => ds) (sp_words_in n (adOf K)) := fun n => by
    induction n with
    | zero => exact fn1_of (ps := ["talk", "thing", "deep"]) (fnOk_no fun ds M P EX h => by unfold sp_words_in at h; (repeat (obtain ⟨_, h⟩ := h)); first | omega | (simp_all [cnB]; done)) D_words_in (He.glo_ok X G (c.fact 58 (f := .glo "words_in") rfl)) rfl (fun _ _ _ _ _ _ us hl => match us, hl with | [_, _, _], _ => rfl)
    | succ n ih => exact fn1_of (k := 18 + n + 1) (afn D_words_in sc_words_in (fun ds M P EX h => by unfold sp_words_in at h; repeat' (first | (subst_vars; rfl) | (refine Or.elim h (fun h => ?_) (fun h => ?_)) | (obtain ⟨_, h⟩ := h))) (fun cdv A outer s H E hr => den_words_in F h_is_plain ih hr) (vc_words_in n _)) D_words_in (He.glo_ok X G (c.fact 58 (f := .glo "words_in") rfl)) rfl (fun _ _ _ _ _ _ us hl => match us, hl with | [_, _, _], _ => rfl)
  have h_words_in := R_words_in 7
  have G_is_saying : FnOk P w K mg base (L2.CX P w) 26 _ fd_is_saying ["talk", "thing"] (spOf K (sp_is_saying (adOf K))) := afn D_is_saying sc_is_saying (fun ds M P EX h => by unfold sp_is_saying at h; repeat' (first | (subst_vars; rfl) | (refine Or.elim h (fun h => ?_) (fun h => ?_)) | (obtain ⟨_, h⟩ := h))) (fun cdv A outer s H E hr => den_is_saying F h_words_in hr) (vc_is_saying _)
  have h_is_saying : Fn1 P w K mg base "is_saying" 26 [] 2 0 (fun ds _ => ds) (sp_is_saying (adOf K)) := fn1_plain G_is_saying D_is_saying (He.glo_ok X G (c.fact 59 (f := .glo "is_saying") rfl)) rfl (fun _ _ _ _ _ _ us hl => match us, hl with | [_, _], _ => rfl)
  have G_Store_init : FnOk P w K mg base (L2.CX P w) 1 _ fd_Store_init ["self", "talk"] (spOf K (sp_Store_init (adOf K))) := afn D_Store_init sc_Store_init (fun ds M P EX h => by unfold sp_Store_init at h; repeat' (first | (subst_vars; rfl) | (refine Or.elim h (fun h => ?_) (fun h => ?_)) | (obtain ⟨_, h⟩ := h))) (fun cdv A outer s H E hr => den_Store_init F  hr) (vc_Store_init _)
  have h_Store : Mk1 P w K mg base "Store" (adOf K).Store 1 [] 1 0 (fun ds es => ds ++ es) (sp_Store_init (adOf K)) := mk1_of G_Store_init D_Store_init (He.mkr_ok (c.fact 60 (f := .mkr "Store") rfl)) F.g_Store rfl (fun _ _ _ _ _ _ us hl => match us, hl with | [_, _], _ => rfl)
  have G_Store_all_said : FnOk P w K mg base (L2.CX P w) 1 _ fd_Store_all_said ["self"] (spOf K (sp_Store_all_said (adOf K))) := afn D_Store_all_said sc_Store_all_said (fun ds M P EX h => by unfold sp_Store_all_said at h; repeat' (first | (subst_vars; rfl) | (refine Or.elim h (fun h => ?_) (fun h => ?_)) | (obtain ⟨_, h⟩ := h))) (fun cdv A outer s H E hr => den_Store_all_said F  hr) (vc_Store_all_said _)
  have h_Store_all_said : Mt1 P w K mg base (adOf K).Store "all_said" 1 [] 1 0 (fun ds _ => ds) (sp_Store_all_said (adOf K)) := mt1_plain G_Store_all_said D_Store_all_said F.k_Store (He.meth_ok (c.fact 61 (f := .meth "Store" "all_said") rfl)) rfl (fun _ _ _ _ _ _ us hl => match us, hl with | [_], _ => rfl)
  have G_Store_put_in : FnOk P w K mg base (L2.CX P w) 27 _ fd_Store_put_in ["self", "saying"] (spOf K (sp_Store_put_in (adOf K))) := afn D_Store_put_in sc_Store_put_in (fun ds M P EX h => by unfold sp_Store_put_in at h; repeat' (first | (subst_vars; rfl) | (refine Or.elim h (fun h => ?_) (fun h => ?_)) | (obtain ⟨_, h⟩ := h))) (fun cdv A outer s H E hr => den_Store_put_in F h_is_saying h_Store_all_said h_cases_many_d hr) (vc_Store_put_in _)
  have h_Store_put_in : Mt1 P w K mg base (adOf K).Store "put_in" 27 [] 2 0 (fun ds _ => ds) (sp_Store_put_in (adOf K)) := mt1_plain G_Store_put_in D_Store_put_in F.k_Store (He.meth_ok (c.fact 62 (f := .meth "Store" "put_in") rfl)) rfl (fun _ _ _ _ _ _ us hl => match us, hl with | [_, _], _ => rfl)
  have G_Store_say : FnOk P w K mg base (L2.CX P w) 28 _ fd_Store_say ["self", "saying"] (spOf K (sp_Store_say (adOf K))) := afn D_Store_say sc_Store_say (fun ds M P EX h => by unfold sp_Store_say at h; repeat' (first | (subst_vars; rfl) | (refine Or.elim h (fun h => ?_) (fun h => ?_)) | (obtain ⟨_, h⟩ := h))) (fun cdv A outer s H E hr => den_Store_say F h_Store_put_in hr) (vc_Store_say _)
  have h_Store_say : Mt1 P w K mg base (adOf K).Store "say" 28 [] 2 0 (fun ds _ => ds) (sp_Store_say (adOf K)) := mt1_plain G_Store_say D_Store_say F.k_Store (He.meth_ok (c.fact 63 (f := .meth "Store" "say") rfl)) rfl (fun _ _ _ _ _ _ us hl => match us, hl with | [_, _], _ => rfl)
  have G_Store_say_all : FnOk P w K mg base (L2.CX P w) 28 _ fd_Store_say_all ["self", "sayings"] (spOf K (sp_Store_say_all (adOf K))) := afn D_Store_say_all sc_Store_say_all (fun ds M P EX h => by unfold sp_Store_say_all at h; repeat' (first | (subst_vars; rfl) | (refine Or.elim h (fun h => ?_) (fun h => ?_)) | (obtain ⟨_, h⟩ := h))) (fun cdv A outer s H E hr => den_Store_say_all F h_Store_put_in hr) (vc_Store_say_all _)
  have h_Store_say_all : Mt1 P w K mg base (adOf K).Store "say_all" 28 [] 2 0 (fun ds _ => ds) (sp_Store_say_all (adOf K)) := mt1_plain G_Store_say_all D_Store_say_all F.k_Store (He.meth_ok (c.fact 64 (f := .meth "Store" "say_all") rfl)) rfl (fun _ _ _ _ _ _ us hl => match us, hl with | [_, _], _ => rfl)
  have G_Store_drop : FnOk P w K mg base (L2.CX P w) 2 _ fd_Store_drop ["self", "number"] (spOf K (sp_Store_drop (adOf K))) := afn D_Store_drop sc_Store_drop (fun ds M P EX h => by unfold sp_Store_drop at h; repeat' (first | (subst_vars; rfl) | (refine Or.elim h (fun h => ?_) (fun h => ?_)) | (obtain ⟨_, h⟩ := h))) (fun cdv A outer s H E hr => den_Store_drop F h_is_whole_n hr) (vc_Store_drop _)
  have h_Store_drop : Mt1 P w K mg base (adOf K).Store "drop" 2 [] 2 0 (fun ds _ => ds) (sp_Store_drop (adOf K)) := mt1_plain G_Store_drop D_Store_drop F.k_Store (He.meth_ok (c.fact 65 (f := .meth "Store" "drop") rfl)) rfl (fun _ _ _ _ _ _ us hl => match us, hl with | [_, _], _ => rfl)
  have G_Store_mark : FnOk P w K mg base (L2.CX P w) 1 _ fd_Store_mark ["self"] (spOf K (sp_Store_mark (adOf K))) := afn D_Store_mark sc_Store_mark (fun ds M P EX h => by unfold sp_Store_mark at h; repeat' (first | (subst_vars; rfl) | (refine Or.elim h (fun h => ?_) (fun h => ?_)) | (obtain ⟨_, h⟩ := h))) (fun cdv A outer s H E hr => den_Store_mark F  hr) (vc_Store_mark _)
  have h_Store_mark : Mt1 P w K mg base (adOf K).Store "mark" 1 [] 1 0 (fun ds _ => ds) (sp_Store_mark (adOf K)) := mt1_plain G_Store_mark D_Store_mark F.k_Store (He.meth_ok (c.fact 66 (f := .meth "Store" "mark") rfl)) rfl (fun _ _ _ _ _ _ us hl => match us, hl with | [_], _ => rfl)
  have G_Store_back : FnOk P w K mg base (L2.CX P w) 1 _ fd_Store_back ["self"] (spOf K (sp_Store_back (adOf K))) := afn D_Store_back sc_Store_back (fun ds M P EX h => by unfold sp_Store_back at h; repeat' (first | (subst_vars; rfl) | (refine Or.elim h (fun h => ?_) (fun h => ?_)) | (obtain ⟨_, h⟩ := h))) (fun cdv A outer s H E hr => den_Store_back F  hr) (vc_Store_back _)
  have h_Store_back : Mt1 P w K mg base (adOf K).Store "back" 1 [] 1 0 (fun ds _ => ds) (sp_Store_back (adOf K)) := mt1_plain G_Store_back D_Store_back F.k_Store (He.meth_ok (c.fact 67 (f := .meth "Store" "back") rfl)) rfl (fun _ _ _ _ _ _ us hl => match us, hl with | [_], _ => rfl)
  have G_Store_standing : FnOk P w K mg base (L2.CX P w) 1 _ fd_Store_standing ["self"] (spOf K (sp_Store_standing (adOf K))) := afn D_Store_standing sc_Store_standing (fun ds M P EX h => by unfold sp_Store_standing at h; repeat' (first | (subst_vars; rfl) | (refine Or.elim h (fun h => ?_) (fun h => ?_)) | (obtain ⟨_, h⟩ := h))) (fun cdv A outer s H E hr => den_Store_standing F  hr) (vc_Store_standing _)
  have h_Store_standing : Mt1 P w K mg base (adOf K).Store "standing" 1 [] 1 0 (fun ds _ => ds) (sp_Store_standing (adOf K)) := mt1_plain G_Store_standing D_Store_standing F.k_Store (He.meth_ok (c.fact 68 (f := .meth "Store" "standing") rfl)) rfl (fun _ _ _ _ _ _ us hl => match us, hl with | [_], _ => rfl)
  have G_Store_log : FnOk P w K mg base (L2.CX P w) 1 _ fd_Store_log ["self"] (spOf K (sp_Store_log (adOf K))) := afn D_Store_log sc_Store_log (fun ds M P EX h => by unfold sp_Store_log at h; repeat' (first | (subst_vars; rfl) | (refine Or.elim h (fun h => ?_) (fun h => ?_)) | (obtain ⟨_, h⟩ := h))) (fun cdv A outer s H E hr => den_Store_log F  hr) (vc_Store_log _)
  have h_Store_log : Mt1 P w K mg base (adOf K).Store "log" 1 [] 1 0 (fun ds _ => ds) (sp_Store_log (adOf K)) := mt1_plain G_Store_log D_Store_log F.k_Store (He.meth_ok (c.fact 69 (f := .meth "Store" "log") rfl)) rfl (fun _ _ _ _ _ _ us hl => match us, hl with | [_], _ => rfl)
  have G_Store_talk : FnOk P w K mg base (L2.CX P w) 1 _ fd_Store_talk ["self"] (spOf K (sp_Store_talk (adOf K))) := afn D_Store_talk sc_Store_talk (fun ds M P EX h => by unfold sp_Store_talk at h; repeat' (first | (subst_vars; rfl) | (refine Or.elim h (fun h => ?_) (fun h => ?_)) | (obtain ⟨_, h⟩ := h))) (fun cdv A outer s H E hr => den_Store_talk F  hr) (vc_Store_talk _)
  have h_Store_talk : Mt1 P w K mg base (adOf K).Store "talk" 1 [] 1 0 (fun ds _ => ds) (sp_Store_talk (adOf K)) := mt1_plain G_Store_talk D_Store_talk F.k_Store (He.meth_ok (c.fact 70 (f := .meth "Store" "talk") rfl)) rfl (fun _ _ _ _ _ _ us hl => match us, hl with | [_], _ => rfl)
  have G_Store_twin : FnOk P w K mg base (L2.CX P w) 3 _ fd_Store_twin ["self"] (spOf K (sp_Store_twin (adOf K))) := afn D_Store_twin sc_Store_twin (fun ds M P EX h => by unfold sp_Store_twin at h; repeat' (first | (subst_vars; rfl) | (refine Or.elim h (fun h => ?_) (fun h => ?_)) | (obtain ⟨_, h⟩ := h))) (fun cdv A outer s H E hr => den_Store_twin F h_Store hr) (vc_Store_twin _)
  have h_Store_twin : Mt1 P w K mg base (adOf K).Store "twin" 3 [] 1 0 (fun ds _ => ds) (sp_Store_twin (adOf K)) := mt1_plain G_Store_twin D_Store_twin F.k_Store (He.meth_ok (c.fact 71 (f := .meth "Store" "twin") rfl)) rfl (fun _ _ _ _ _ _ us hl => match us, hl with | [_], _ => rfl)
  have G_Store_eq : FnOk P w K mg base (L2.CX P w) 3 _ fd_Store_eq ["self", "other"] (spOf K (sp_Store_eq (adOf K))) := afn D_Store_eq sc_Store_eq (fun ds M P EX h => by unfold sp_Store_eq at h; repeat' (first | (subst_vars; rfl) | (refine Or.elim h (fun h => ?_) (fun h => ?_)) | (obtain ⟨_, h⟩ := h))) (fun cdv A outer s H E hr => den_Store_eq F ho_Talk_eq h_Store_talk h_Store_all_said hr) (vc_Store_eq _)
  have ho_Store_eq : Own1 P w K mg base (adOf K).Store "__eq__" 3 2 (sp_Store_eq (adOf K)) := own1_of G_Store_eq D_Store_eq (He.meth_ok (c.fact 72 (f := .meth "Store" "__eq__") rfl)) rfl (fun _ _ _ _ _ _ us hl => match us, hl with | [_, _], _ => rfl)
  have G_Store_len : FnOk P w K mg base (L2.CX P w) 1 _ fd_Store_len ["self"] (spOf K (sp_Store_len (adOf K))) := afn D_Store_len sc_Store_len (fun ds M P EX h => by unfold sp_Store_len at h; repeat' (first | (subst_vars; rfl) | (refine Or.elim h (fun h => ?_) (fun h => ?_)) | (obtain ⟨_, h⟩ := h))) (fun cdv A outer s H E hr => den_Store_len F  hr) (vc_Store_len _)
  have ho_Store_len : Own1 P w K mg base (adOf K).Store "__len__" 1 1 (sp_Store_len (adOf K)) := own1_of G_Store_len D_Store_len (He.meth_ok (c.fact 73 (f := .meth "Store" "__len__") rfl)) rfl (fun _ _ _ _ _ _ us hl => match us, hl with | [_], _ => rfl)
  have G_Store_repr : FnOk P w K mg base (L2.CX P w) 1 _ fd_Store_repr ["self"] (spOf K (sp_Store_repr (adOf K))) := afn D_Store_repr sc_Store_repr (fun ds M P EX h => by unfold sp_Store_repr at h; repeat' (first | (subst_vars; rfl) | (refine Or.elim h (fun h => ?_) (fun h => ?_)) | (obtain ⟨_, h⟩ := h))) (fun cdv A outer s H E hr => den_Store_repr F  hr) (vc_Store_repr _)
  have ho_Store_repr : Own1 P w K mg base (adOf K).Store "__repr__" 1 1 (sp_Store_repr (adOf K)) := own1_of G_Store_repr D_Store_repr (He.meth_ok (c.fact 74 (f := .meth "Store" "__repr__") rfl)) rfl (fun _ _ _ _ _ _ us hl => match us, hl with | [_], _ => rfl)
  have G_l_pool : FnOk P w K mg base (L2.CX P w) 1 _ fd_l_pool ["_law_script", "_law_k"] (spOf K (sp_l_pool (adOf K))) := afn D_l_pool sc_l_pool (fun ds M P EX h => by unfold sp_l_pool at h; repeat' (first | (subst_vars; rfl) | (refine Or.elim h (fun h => ?_) (fun h => ?_)) | (obtain ⟨_, h⟩ := h))) (fun cdv A outer s H E hr => den_l_pool F  hr) (vc_l_pool _)
  have h_l_pool : Fn1 P w K mg base "_law_pool" 1 [] 2 0 (fun ds _ => ds) (sp_l_pool (adOf K)) := fn1_plain G_l_pool D_l_pool (He.glo_ok X G (c.fact 75 (f := .glo "_law_pool") rfl)) rfl (fun _ _ _ _ _ _ us hl => match us, hl with | [_, _], _ => rfl)
  have G_l_take : FnOk P w K mg base (L2.CX P w) 1 _ fd_l_take ["_law_pool_here", "_law_many"] (spOf K (sp_l_take (adOf K))) := afn D_l_take sc_l_take (fun ds M P EX h => by unfold sp_l_take at h; repeat' (first | (subst_vars; rfl) | (refine Or.elim h (fun h => ?_) (fun h => ?_)) | (obtain ⟨_, h⟩ := h))) (fun cdv A outer s H E hr => den_l_take F  hr) (vc_l_take _)
  have h_l_take : Fn1 P w K mg base "_law_take" 1 [] 2 0 (fun ds _ => ds) (sp_l_take (adOf K)) := fn1_plain G_l_take D_l_take (He.glo_ok X G (c.fact 76 (f := .glo "_law_take") rfl)) rfl (fun _ _ _ _ _ _ us hl => match us, hl with | [_, _], _ => rfl)
  have G_l_names : FnOk P w K mg base (L2.CX P w) 2 _ fd_l_names ["_law_pool_here", "_law_many"] (spOf K (sp_l_names (adOf K))) := afn D_l_names sc_l_names (fun ds M P EX h => by unfold sp_l_names at h; repeat' (first | (subst_vars; rfl) | (refine Or.elim h (fun h => ?_) (fun h => ?_)) | (obtain ⟨_, h⟩ := h))) (fun cdv A outer s H E hr => den_l_names F h_l_take hr) (vc_l_names _)
  have h_l_names : Fn1 P w K mg base "_law_names" 2 [] 2 0 (fun ds _ => ds) (sp_l_names (adOf K)) := fn1_plain G_l_names D_l_names (He.glo_ok X G (c.fact 77 (f := .glo "_law_names") rfl)) rfl (fun _ _ _ _ _ _ us hl => match us, hl with | [_, _], _ => rfl)
  have G_l_tongue : FnOk P w K mg base (L2.CX P w) 3 _ fd_l_tongue ["_law_pool_here", "_law_many", "_law_numbers"] (spOf K (sp_l_tongue (adOf K))) := afn D_l_tongue sc_l_tongue (fun ds M P EX h => by unfold sp_l_tongue at h; repeat' (first | (subst_vars; rfl) | (refine Or.elim h (fun h => ?_) (fun h => ?_)) | (obtain ⟨_, h⟩ := h))) (fun cdv A outer s H E hr => den_l_tongue F h_l_take h_l_names hr) (vc_l_tongue _)
  have h_l_tongue : Fn1 P w K mg base "_law_tongue" 3 [] 3 0 (fun ds _ => ds) (sp_l_tongue (adOf K)) := fn1_plain G_l_tongue D_l_tongue (He.glo_ok X G (c.fact 78 (f := .glo "_law_tongue") rfl)) rfl (fun _ _ _ _ _ _ us hl => match us, hl with | [_, _, _], _ => rfl)
  have G_l_signed : FnOk P w K mg base (L2.CX P w) 2 _ fd_l_signed ["_law_pool_here", "_law_top"] (spOf K (sp_l_signed (adOf K))) := afn D_l_signed sc_l_signed (fun ds M P EX h => by unfold sp_l_signed at h; repeat' (first | (subst_vars; rfl) | (refine Or.elim h (fun h => ?_) (fun h => ?_)) | (obtain ⟨_, h⟩ := h))) (fun cdv A outer s H E hr => den_l_signed F h_l_take hr) (vc_l_signed _)
  have h_l_signed : Fn1 P w K mg base "_law_signed" 2 [] 2 0 (fun ds _ => ds) (sp_l_signed (adOf K)) := fn1_plain G_l_signed D_l_signed (He.glo_ok X G (c.fact 79 (f := .glo "_law_signed") rfl)) rfl (fun _ _ _ _ _ _ us hl => match us, hl with | [_, _], _ => rfl)
  have R_l_term : ∀ n : Nat, Fn1 P w K mg base "_law_term" (1 + n) [] 3 0 (fun ds _ => ds) (sp_l_term n (adOf K)) := fun n => by
    induction n with
    | zero => exact fn1_of (ps := ["_law_pool_here", "_law_sets", "_law_deep"]) (fnOk_no fun ds M P EX h => by unfold sp_l_term at h; (repeat (obtain ⟨_, h⟩ := h)); first | omega | (simp_all [cnB]; done)) D_l_term (He.glo_ok X G (c.fact 80 (f := .glo "_law_term") rfl)) rfl (fun _ _ _ _ _ _ us hl => match us, hl with | [_, _, _], _ => rfl)
    | succ n ih => exact fn1_of (k := 1 + n + 1) (afn D_l_term sc_l_term (fun ds M P EX h => by unfold sp_l_term at h; repeat' (first | (subst_vars; rfl) | (refine Or.elim h (fun h => ?_) (fun h => ?_)) | (obtain ⟨_, h⟩ := h))) (fun cdv A outer s H E hr => den_l_term F h_l_take ih hr) (vc_l_term n _)) D_l_term (He.glo_ok X G (c.fact 80 (f := .glo "_law_term") rfl)) rfl (fun _ _ _ _ _ _ us hl => match us, hl with | [_, _, _], _ => rfl)
  have h_l_term := R_l_term 3
  have G_l_sum : FnOk P w K mg base (L2.CX P w) 5 _ fd_l_sum ["_law_pool_here", "_law_tongue_here", "_law_many", "_law_top"] (spOf K (sp_l_sum (adOf K))) := afn D_l_sum sc_l_sum (fun ds M P EX h => by unfold sp_l_sum at h; repeat' (first | (subst_vars; rfl) | (refine Or.elim h (fun h => ?_) (fun h => ?_)) | (obtain ⟨_, h⟩ := h))) (fun cdv A outer s H E hr => den_l_sum F h_l_take h_l_signed h_l_term hr) (vc_l_sum _)
  have h_l_sum : Fn1 P w K mg base "_law_sum" 5 [] 4 0 (fun ds _ => ds) (sp_l_sum (adOf K)) := fn1_plain G_l_sum D_l_sum (He.glo_ok X G (c.fact 81 (f := .glo "_law_sum") rfl)) rfl (fun _ _ _ _ _ _ us hl => match us, hl with | [_, _, _, _], _ => rfl)
  have G_l_leaf : FnOk P w K mg base (L2.CX P w) 6 _ fd_l_leaf ["_law_pool_here", "_law_tongue_here", "_law_many", "_law_top"] (spOf K (sp_l_leaf (adOf K))) := afn D_l_leaf sc_l_leaf (fun ds M P EX h => by unfold sp_l_leaf at h; repeat' (first | (subst_vars; rfl) | (refine Or.elim h (fun h => ?_) (fun h => ?_)) | (obtain ⟨_, h⟩ := h))) (fun cdv A outer s H E hr => den_l_leaf F h_l_take h_l_sum h_l_term hr) (vc_l_leaf _)
  have h_l_leaf : Fn1 P w K mg base "_law_leaf" 6 [] 4 0 (fun ds _ => ds) (sp_l_leaf (adOf K)) := fn1_plain G_l_leaf D_l_leaf (He.glo_ok X G (c.fact 82 (f := .glo "_law_leaf") rfl)) rfl (fun _ _ _ _ _ _ us hl => match us, hl with | [_, _, _, _], _ => rfl)
  have R_l_saying : ∀ n : Nat, Fn1 P w K mg base "_law_saying" (6 + n) [] 5 0 (fun ds _ => ds) (sp_l_saying n (adOf K)) := fun n => by
    induction n with
    | zero => exact fn1_of (ps := ["_law_pool_here", "_law_tongue_here", "_law_deep", "_law_many", "_law_top"]) (fnOk_no fun ds M P EX h => by unfold sp_l_saying at h; (repeat (obtain ⟨_, h⟩ := h)); first | omega | (simp_all [cnB]; done)) D_l_saying (He.glo_ok X G (c.fact 83 (f := .glo "_law_saying") rfl)) rfl (fun _ _ _ _ _ _ us hl => match us, hl with | [_, _, _, _, _], _ => rfl)
    | succ n ih => exact fn1_of (k := 6 + n + 1) (afn D_l_saying sc_l_saying (fun ds M P EX h => by unfold sp_l_saying at h; repeat' (first | (subst_vars; rfl) | (refine Or.elim h (fun h => ?_) (fun h => ?_)) | (obtain ⟨_, h⟩ := h))) (fun cdv A outer s H E hr => den_l_saying F h_l_take h_l_leaf ih hr) (vc_l_saying n _)) D_l_saying (He.glo_ok X G (c.fact 83 (f := .glo "_law_saying") rfl)) rfl (fun _ _ _ _ _ _ us hl => match us, hl with | [_, _, _, _, _], _ => rfl)
  have h_l_saying := R_l_saying 4
  have R_l_cases_many : ∀ n : Nat, Fn1 P w K mg base "_law_cases_many" (0 + n) [] 1 0 (fun ds _ => ds) (sp_l_cases_many n (adOf K)) := fun n => by
    induction n with
    | zero => exact fn1_of (ps := ["_law_claim"]) (fnOk_no fun ds M P EX h => by unfold sp_l_cases_many at h; (repeat (obtain ⟨_, h⟩ := h)); first | omega | (simp_all [cnB]; done)) D_l_cases_many (He.glo_ok X G (c.fact 84 (f := .glo "_law_cases_many") rfl)) rfl (fun _ _ _ _ _ _ us hl => match us, hl with | [_], _ => rfl)
    | succ n ih => exact fn1_of (k := 0 + n + 1) (afn D_l_cases_many sc_l_cases_many (fun ds M P EX h => by unfold sp_l_cases_many at h; repeat' (first | (subst_vars; rfl) | (refine Or.elim h (fun h => ?_) (fun h => ?_)) | (obtain ⟨_, h⟩ := h))) (fun cdv A outer s H E hr => den_l_cases_many F ih hr) (vc_l_cases_many n _)) D_l_cases_many (He.glo_ok X G (c.fact 84 (f := .glo "_law_cases_many") rfl)) rfl (fun _ _ _ _ _ _ us hl => match us, hl with | [_], _ => rfl)
  have h_l_cases_many := R_l_cases_many 6
  have G_l_cases_all : FnOk P w K mg base (L2.CX P w) 7 _ fd_l_cases_all ["_law_claims_here"] (spOf K (sp_l_cases_all (adOf K))) := afn D_l_cases_all sc_l_cases_all (fun ds M P EX h => by unfold sp_l_cases_all at h; repeat' (first | (subst_vars; rfl) | (refine Or.elim h (fun h => ?_) (fun h => ?_)) | (obtain ⟨_, h⟩ := h))) (fun cdv A outer s H E hr => den_l_cases_all F h_l_cases_many hr) (vc_l_cases_all _)
  have h_l_cases_all : Fn1 P w K mg base "_law_cases_all" 7 [] 1 0 (fun ds _ => ds) (sp_l_cases_all (adOf K)) := fn1_plain G_l_cases_all D_l_cases_all (He.glo_ok X G (c.fact 85 (f := .glo "_law_cases_all") rfl)) rfl (fun _ _ _ _ _ _ us hl => match us, hl with | [_], _ => rfl)
  have G_l_model : FnOk P w K mg base (L2.CX P w) 1 _ fd_l_model [] (spOf K (sp_l_model (adOf K))) := afn D_l_model sc_l_model (fun ds M P EX h => by unfold sp_l_model at h; repeat' (first | (subst_vars; rfl) | (refine Or.elim h (fun h => ?_) (fun h => ?_)) | (obtain ⟨_, h⟩ := h))) (fun cdv A outer s H E hr => den_l_model F  hr) (vc_l_model _)
  have h_l_model : Fn1 P w K mg base "_law_model" 1 [] 0 0 (fun ds _ => ds) (sp_l_model (adOf K)) := fn1_plain G_l_model D_l_model (He.glo_ok X G (c.fact 86 (f := .glo "_law_model") rfl)) rfl (fun _ _ _ _ _ _ us hl => match us, hl with | [], _ => rfl)
  have G_l_look : FnG P w K mg base (L2.CX P w) 3 _ fd_l_look ["_law_store", "_law_model_here"] (spOf K (sp_l_look (adOf K))) := fun A hgd => afnAt A D_l_look sc_l_look (fun ds M P EX h => by unfold sp_l_look at h; repeat' (first | (subst_vars; rfl) | (refine Or.elim h (fun h => ?_) (fun h => ?_)) | (obtain ⟨_, h⟩ := h))) (fun cdv outer s H E hr => den_l_look F h_Store_standing ho_Store_len ho_Store_repr hr hgd) (vc_l_look _)
  have h_l_look : Fn1G P w K mg base "_law_look" 3 [] 2 0 (fun ds _ => ds) (sp_l_look (adOf K)) := fn1G_of G_l_look D_l_look (He.glo_ok X G (c.fact 87 (f := .glo "_law_look") rfl)) rfl (fun _ _ _ _ _ _ us hl => match us, hl with | [_, _], _ => rfl)
  have G_l_copy : FnOk P w K mg base (L2.CX P w) 1 _ fd_l_copy ["_law_model_here"] (spOf K (sp_l_copy (adOf K))) := afn D_l_copy sc_l_copy (fun ds M P EX h => by unfold sp_l_copy at h; repeat' (first | (subst_vars; rfl) | (refine Or.elim h (fun h => ?_) (fun h => ?_)) | (obtain ⟨_, h⟩ := h))) (fun cdv A outer s H E hr => den_l_copy F  hr) (vc_l_copy _)
  have h_l_copy : Fn1 P w K mg base "_law_copy" 1 [] 1 0 (fun ds _ => ds) (sp_l_copy (adOf K)) := fn1_plain G_l_copy D_l_copy (He.glo_ok X G (c.fact 88 (f := .glo "_law_copy") rfl)) rfl (fun _ _ _ _ _ _ us hl => match us, hl with | [_], _ => rfl)
  have G_l_alike : FnG P w K mg base (L2.CX P w) 5 _ fd_l_alike ["_law_stores", "_law_models"] (spOf K (sp_l_alike (adOf K))) := fun A hgd => afnAt A D_l_alike sc_l_alike (fun ds M P EX h => by unfold sp_l_alike at h; repeat' (first | (subst_vars; rfl) | (refine Or.elim h (fun h => ?_) (fun h => ?_)) | (obtain ⟨_, h⟩ := h))) (fun cdv outer s H E hr => den_l_alike F ho_Store_eq ho_Store_repr h_l_look h_Store_log hr hgd) (vc_l_alike _)
  have h_l_alike : Fn1G P w K mg base "_law_alike" 5 [] 2 0 (fun ds _ => ds) (sp_l_alike (adOf K)) := fn1G_of G_l_alike D_l_alike (He.glo_ok X G (c.fact 89 (f := .glo "_law_alike") rfl)) rfl (fun _ _ _ _ _ _ us hl => match us, hl with | [_, _], _ => rfl)
  have G_l_claims : FnOk P w K mg base (L2.CX P w) 11 _ fd_l_claims ["_law_pool_here", "_law_tongue_here", "_law_standing", "_law_many"] (spOf K (sp_l_claims (adOf K))) := afn D_l_claims sc_l_claims (fun ds M P EX h => by unfold sp_l_claims at h; repeat' (first | (subst_vars; rfl) | (refine Or.elim h (fun h => ?_) (fun h => ?_)) | (obtain ⟨_, h⟩ := h))) (fun cdv A outer s H E hr => den_l_claims F h_l_take h_l_saying h_l_cases_all hr) (vc_l_claims _)
  have h_l_claims : Fn1 P w K mg base "_law_claims" 11 [] 4 0 (fun ds _ => ds) (sp_l_claims (adOf K)) := fn1_plain G_l_claims D_l_claims (He.glo_ok X G (c.fact 90 (f := .glo "_law_claims") rfl)) rfl (fun _ _ _ _ _ _ us hl => match us, hl with | [_, _, _, _], _ => rfl)
  have G_l_step : FnG P w K mg base (L2.CX P w) 29 _ fd_l_step ["_law_pool_here", "_law_tongue_here", "_law_store", "_law_model_here"] (spOf K (sp_l_step (adOf K))) := fun A hgd => afnAt A D_l_step sc_l_step (fun ds M P EX h => by unfold sp_l_step at h; repeat' (first | (subst_vars; rfl) | (refine Or.elim h (fun h => ?_) (fun h => ?_)) | (obtain ⟨_, h⟩ := h))) (fun cdv outer s H E hr => den_l_step F h_l_take h_l_claims h_Store_back h_Store_mark h_Store_drop h_Store_say h_Store_say_all hr hgd) (vc_l_step _)
  have h_l_step : Fn1G P w K mg base "_law_step" 29 [] 4 0 (fun ds _ => ds) (sp_l_step (adOf K)) := fn1G_of G_l_step D_l_step (He.glo_ok X G (c.fact 91 (f := .glo "_law_step") rfl)) rfl (fun _ _ _ _ _ _ us hl => match us, hl with | [_, _, _, _], _ => rfl)
  have G_l_turn : FnG P w K mg base (L2.CX P w) 30 _ fd_l_turn ["_law_pool_here", "_law_tongue_here", "_law_stores", "_law_models"] (spOf K (sp_l_turn (adOf K))) := fun A hgd => afnAt A D_l_turn sc_l_turn (fun ds M P EX h => by unfold sp_l_turn at h; repeat' (first | (subst_vars; rfl) | (refine Or.elim h (fun h => ?_) (fun h => ?_)) | (obtain ⟨_, h⟩ := h))) (fun cdv outer s H E hr => den_l_turn F h_l_take h_Store_twin h_l_copy h_Store_standing h_l_step h_l_alike hr hgd) (vc_l_turn _)
  have h_l_turn : Fn1G P w K mg base "_law_turn" 30 [] 4 0 (fun ds _ => ds) (sp_l_turn (adOf K)) := fn1G_of G_l_turn D_l_turn (He.glo_ok X G (c.fact 92 (f := .glo "_law_turn") rfl)) rfl (fun _ _ _ _ _ _ us hl => match us, hl with | [_, _, _, _], _ => rfl)
  exact afnAt (k := 30) callerA D_law sc_law (fun ds M P EX h => by unfold sp_law at h; repeat' (first | (subst_vars; rfl) | (refine Or.elim h (fun h => ?_) (fun h => ?_)) | (obtain ⟨_, h⟩ := h))) (fun cdv outer s H E hr => den_law F h_l_pool h_l_tongue h_l_take h_Talk_m h_Store h_l_model h_l_turn h_Store_say_all ho_Store_eq ho_Talk_eq h_Store_talk hr rfl) (vc_law _)
end K84a
open PySem PySem.W PySem.Calls PyProof.Rows
theorem PySem.Challenge.cw_countfold_k84_numbers_for_good_holds : PySem.Challenge.rw_countfold_k84_numbers_for_good.Holds := by
  w_on; o_law
  refine HandSHeadRun.head_any (r := OpenLaw.row PySem.Challenge.rw_countfold_k84_numbers_for_good) (q := view (OpenLaw.row PySem.Challenge.rw_countfold_k84_numbers_for_good).prog [63]) (H := K84a.hk) (ob := K84a.ob) (M := 12000) (loose := K84a.loose) (d := HandSHeadRun.topDef (OpenLaw.row PySem.Challenge.rw_countfold_k84_numbers_for_good).prog 63) (kwd := []) K84a.ob_eq
    (by kernel_rfl) (fun s => by kernel_rfl) K84a.run (by kernel_rfl) (by kernel_rfl) (by kernel_rfl) (by rfl) (by first | assumption | decide +kernel) (by decide +kernel) ⟨rfl, rfl, rfl, rfl, rfl, by decide +kernel⟩ ?hw ?hc
  case hw => w_witness2
  case hc =>
    refine L2.walk_ofG (l := PySem.Challenge.rw_countfold_k84_numbers_for_good) (n := 63) (k := 31) (x := "_law_script") (CX := fun w => L2.CX (PySem.Challenge.rw_countfold_k84_numbers_for_good).prog w) rfl (by decide) (by kernel_rfl) ⟨rfl, by decide, by decide⟩ ?F ?CX
    case CX =>
      intro w H s e s' ⟨_, _, _, _, _, _, _, _, _, _, _, _, z⟩
      exact z
    case F =>
      intro w mg fa h Y G hmg0
      obtain ⟨K, KX, xt, c⟩ := Y
      have hmg : mg ("law" : PySem.Str) = some (.ref fa) := by
        have e : (HandSHeadRun.topDef (OpenLaw.row PySem.Challenge.rw_countfold_k84_numbers_for_good).prog 63).name = ("law" : PySem.Str) := by kernel_rfl
        rw [← e]
        exact hmg0
      obtain ⟨fd, hb, hF⟩ := K84a.facts (P := (PySem.Challenge.rw_countfold_k84_numbers_for_good).prog) (w := w) KX G hmg xt c
      exact ⟨K, fd, Ab.spOf K (K84a.sp_law (K84a.adOf K)), KX, hb, fun H a ns hl _ hS => Ab.law_sp hS ⟨ns, rfl, rfl, rfl⟩, hF⟩
